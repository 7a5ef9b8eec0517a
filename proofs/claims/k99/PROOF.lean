import PyProof.Rows.All
import Wide.All
import OpenK.AllK
import Wide.FinOn
import HandS.ForMost
import HandS.Walk
import HandS.Style
import HandS.Star
import HandS.TupAny
import HandS.TupMul
import HandS.Flow
import HandS.IsInst
import HandS.DictComp
import HandS.Strs
import HandS.More
import HandS.Zip
import KE.GoesNew
import KE.SortData
import KE.KDictZip
import KE.DataMinMax
import HandS.TupSets
import HandS.Small
import PySem.Challenge.RW_atanywrite_k99_whole_rows_that_do_not_ke
set_option Elab.async false
set_option linter.all false
set_option maxRecDepth 100000
set_option maxHeartbeats 4000000
/-! K9A: plain data, its standing in the abstract heap, slots, judgements at the level of data. -/
namespace Nine
open PySem PySem.Spec PyProof.Rows L2

/-! ### plain data -/
inductive T where
  | non | bl (b : Bool) | int (i : Int) | str (x : Str) | tup (ts : List T) | tuf (xs : List Str) | lst (ts : List T)

mutual
inductive Im (K : PySem.W.Frag) (H : Hp) : V → T → Prop
  | non : Im K H .non .non
  | bl (b : Bool) : Im K H (.bl b) (.bl b)
  | int (i : Int) : Im K H (.int i) (.int i)
  | str (x : Str) : Im K H (.str x) (.str x)
  | tup {a : Addr} {xs : List V} {ts : List T} : SqT K H a xs → ImAll K H xs ts → Im K H (.ref a) (.tup ts)
  /-- a tuple of texts whose one object is known -/
  | tuf {a : Addr} {o : Obj} {xs : List Str} : H a = some (.frz o (.tup (xs.map V.str))) → o.dict = none → Im K H (.ref a) (.tuf xs)
  /-- a list in a list, never changed -/
  | lst {a : Addr} {o : Obj} {xs : List V} {ts : List T} : H a = some (.frz o (.lst xs)) → ImAll K H xs ts → Im K H (.ref a) (.lst ts)
inductive ImAll (K : PySem.W.Frag) (H : Hp) : List V → List T → Prop
  | nil : ImAll K H [] []
  | cons {v : V} {vs : List V} {t : T} {ts : List T} : Im K H v t → ImAll K H vs ts → ImAll K H (v :: vs) (t :: ts)
end

/-- the tuples stay -/
structure TK (K : PySem.W.Frag) (H H' : Hp) : Prop where
  s : ∀ a xs, SqT K H a xs → SqT K H' a xs
  z : ∀ a o u, H a = some (.frz o u) → H' a = some (.frz o u)
section
variable {K : PySem.W.Frag} {H H' H2 : Hp}
theorem TK.refl : TK K H H := ⟨fun _ _ h => h, fun _ _ _ h => h⟩
theorem TK.trans (a : TK K H H') (b : TK K H' H2) : TK K H H2 := ⟨fun x xs h => b.s x xs (a.s x xs h), fun x o xs h => b.z x o xs (a.z x o xs h)⟩
theorem same_t {a : Addr} {xs : List V} (e : Same H H') (h : SqT K H a xs) : SqT K H' a xs := by
  rcases h with (h | ⟨o, h⟩) | h
  · exact .inl (.inl (e _ _ h))
  · exact .inl (.inr ⟨o, e _ _ h⟩)
  · exact .inr h
theorem tk_same (e : Same H H') : TK K H H' := ⟨fun _ _ h => same_t e h, fun _ _ _ h => e _ _ h⟩
/-- a list, a dict, .. changed, or a new thing -/
theorem tk_upd {p : Addr} {o : HO} (h : ∀ xs, H p ≠ some (.tup xs)) (h2 : ∀ u xs, H p ≠ some (.frz u xs)) : TK K H (upd H p o) := ⟨fun a xs q => by
  rcases q with (q | ⟨u, q⟩) | q
  · refine .inl (.inl ?_)
    rw [upd_ne (fun e => h xs (by rw [← e]; exact q))]
    exact q
  · refine .inl (.inr ⟨u, ?_⟩)
    rw [upd_ne (fun e => h2 u (.tup xs) (by rw [← e]; exact q))]
    exact q
  · exact .inr q, fun a u xs q => by
  rw [upd_ne (fun e => h2 u xs (by rw [← e]; exact q))]
  exact q⟩
theorem same_new {p : Addr} {o : HO} (h : H p = none) : Same H (upd H p o) := fun b x e => by
  rw [upd_ne (ne_of_none e h)]
  exact e
/-- what the base does not know may change -/
theorem same_mut {C : Hp} {p : Addr} {o : HO} (e : Same C H) (h : C p = none) : Same C (upd H p o) := fun b x q => by
  rw [upd_ne (ne_of_none q h)]
  exact e b x q

mutual
theorem Im.tk (k : TK K H H') : ∀ {t : T} {v : V}, Im K H v t → Im K H' v t
  | .non, _, h => by cases h; exact .non
  | .bl _, _, h => by cases h; exact .bl _
  | .int _, _, h => by cases h; exact .int _
  | .str _, _, h => by cases h; exact .str _
  | .tup ts, _, h => by
    cases h with
    | tup hs ha => exact .tup (k.s _ _ hs) (ImAll.tk k ha)
  | .tuf _, _, h => by
    cases h with
    | tuf hs hd => exact .tuf (k.z _ _ _ hs) hd
  | .lst ts, _, h => by
    cases h with
    | lst hs ha => exact .lst (k.z _ _ _ hs) (ImAll.tk k ha)
theorem ImAll.tk (k : TK K H H') : ∀ {ts : List T} {vs : List V}, ImAll K H vs ts → ImAll K H' vs ts
  | [], _, h => by cases h; exact .nil
  | t :: ts, _, h => by
    cases h with
    | cons h1 h2 => exact .cons (Im.tk k h1) (ImAll.tk k h2)
end
theorem Im.mono {t : T} {v : V} (e : Same H H') (h : Im K H v t) : Im K H' v t := h.tk (tk_same e)
theorem ImAll.mono {ts : List T} {vs : List V} (e : Same H H') (h : ImAll K H vs ts) : ImAll K H' vs ts := h.tk (tk_same e)
theorem Im.int_eq {v : V} {i : Int} (h : Im K H v (.int i)) : v = .int i := by cases h; rfl
theorem Im.bl_eq {v : V} {b : Bool} (h : Im K H v (.bl b)) : v = .bl b := by cases h; rfl
theorem Im.str_eq {v : V} {x : Str} (h : Im K H v (.str x)) : v = .str x := by cases h; rfl
theorem Im.non_eq {v : V} (h : Im K H v .non) : v = .non := by cases h; rfl
theorem Im.tup_eq {v : V} {ts : List T} (h : Im K H v (.tup ts)) : ∃ a xs, v = .ref a ∧ SqT K H a xs ∧ ImAll K H xs ts := by
  cases h with
  | tup hs ha => exact ⟨_, _, rfl, hs, ha⟩
theorem ImAll.length : ∀ {vs : List V} {ts : List T}, ImAll K H vs ts → vs.length = ts.length
  | [], [], _ => rfl
  | v :: vs, t :: ts, h => by
    cases h with
    | cons h1 h2 => rw [List.length_cons, List.length_cons, ImAll.length h2]
theorem ImAll.get : ∀ {vs : List V} {ts : List T} {i : Nat} {t : T}, ImAll K H vs ts → ts[i]? = some t → ∃ v, vs[i]? = some v ∧ Im K H v t
  | _, _ :: _, 0, _, .cons h1 _, e => by
    simp only [List.getElem?_cons_zero, Option.some.injEq] at e
    subst e
    exact ⟨_, rfl, h1⟩
  | _, _ :: _, i + 1, t, .cons _ h2, e => by
    simp only [List.getElem?_cons_succ] at e
    obtain ⟨v, e1, r⟩ := ImAll.get (i := i) h2 e
    exact ⟨v, by simpa using e1, r⟩
theorem ImAll.getv : ∀ {vs : List V} {ts : List T} {i : Nat} {v : V}, ImAll K H vs ts → vs[i]? = some v → ∃ t, ts[i]? = some t ∧ Im K H v t
  | _ :: _, _, 0, _, .cons h1 _, e => by
    simp only [List.getElem?_cons_zero, Option.some.injEq] at e
    subst e
    exact ⟨_, rfl, h1⟩
  | _ :: _, _, i + 1, v, .cons _ h2, e => by
    simp only [List.getElem?_cons_succ] at e
    obtain ⟨t, e1, r⟩ := ImAll.getv (i := i) h2 e
    exact ⟨t, by simpa using e1, r⟩
theorem ImAll.append : ∀ {vs ws : List V} {ts us : List T}, ImAll K H vs ts → ImAll K H ws us → ImAll K H (vs ++ ws) (ts ++ us)
  | _, _, _, _, .nil, h => h
  | _, _, _, _, .cons h1 h2, h => .cons h1 (ImAll.append h2 h)
theorem ImAll.one {v : V} {t : T} (h : Im K H v t) : ImAll K H [v] [t] := .cons h .nil
theorem ImAll.take : ∀ {vs : List V} {ts : List T} (n : Nat), ImAll K H vs ts → ImAll K H (vs.take n) (ts.take n)
  | _, _, 0, _ => .nil
  | _, _, _ + 1, .nil => .nil
  | _, _, n + 1, .cons h1 h2 => .cons h1 (ImAll.take n h2)
theorem ImAll.drop : ∀ {vs : List V} {ts : List T} (n : Nat), ImAll K H vs ts → ImAll K H (vs.drop n) (ts.drop n)
  | _, _, 0, h => h
  | _, _, _ + 1, .nil => .nil
  | _, _, n + 1, .cons h1 h2 => ImAll.drop n h2
theorem ImAll.set : ∀ {vs : List V} {ts : List T} {v : V} {t : T} (n : Nat), ImAll K H vs ts → Im K H v t → ImAll K H (vs.set n v) (ts.set n t)
  | _, _, _, _, _, .nil, _ => .nil
  | _, _, _, _, 0, .cons h1 h2, h => .cons h h2
  | _, _, _, _, n + 1, .cons h1 h2, h => .cons h1 (ImAll.set n h2 h)
theorem ImAll.ints : ∀ {vs : List V} {ns : List Int}, ImAll K H vs (ns.map T.int) → vs = ns.map V.int
  | _, [], h => by cases h; rfl
  | _, n :: ns, h => by
    cases h with
    | cons h1 h2 => rw [h1.int_eq, ImAll.ints h2]; rfl
theorem ImAll.strs : ∀ {vs : List V} {ns : List Str}, ImAll K H vs (ns.map T.str) → vs = ns.map V.str
  | _, [], h => by cases h; rfl
  | _, n :: ns, h => by
    cases h with
    | cons h1 h2 => rw [h1.str_eq, ImAll.strs h2]; rfl
theorem ImAll.bls : ∀ {vs : List V} {ns : List Bool}, ImAll K H vs (ns.map T.bl) → vs = ns.map V.bl
  | _, [], h => by cases h; rfl
  | _, n :: ns, h => by
    cases h with
    | cons h1 h2 => rw [h1.bl_eq, ImAll.bls h2]; rfl
theorem imAll_ints : ∀ (ns : List Int), ImAll K H (ns.map V.int) (ns.map T.int)
  | [] => .nil
  | n :: ns => .cons (.int n) (imAll_ints ns)
theorem imAll_strs : ∀ (ns : List Str), ImAll K H (ns.map V.str) (ns.map T.str)
  | [] => .nil
  | n :: ns => .cons (.str n) (imAll_strs ns)
theorem imAll_bls : ∀ (ns : List Bool), ImAll K H (ns.map V.bl) (ns.map T.bl)
  | [] => .nil
  | n :: ns => .cons (.bl n) (imAll_bls ns)
theorem ImAll.map {α : Type} {f : α → V} {g : α → T} : ∀ {l : List α}, (∀ x ∈ l, Im K H (f x) (g x)) → ImAll K H (l.map f) (l.map g)
  | [], _ => .nil
  | x :: l, h => .cons (h x List.mem_cons_self) (ImAll.map fun y hy => h y (List.mem_cons_of_mem _ hy))
end

theorem Im.low {K : PySem.W.Frag} {H : Hp} {v : V} {xs : List Str} (h : Im K H v (.tuf xs)) : Im K H v (.tup (xs.map T.str)) := by
  cases h with
  | tuf hs hd => exact .tup (.inl (.inr ⟨_, hs⟩)) (imAll_strs xs)

/-! ### dicts with text keys -/
def KvOk (K : PySem.W.Frag) (H : Hp) : List (Key × V) → List (Str × T) → Prop
  | [], [] => True
  | p :: ks, q :: kvs => p.1 = .inr q.1 ∧ Im K H p.2 q.2 ∧ KvOk K H ks kvs
  | _, _ => False
theorem KvOk.tk {K : PySem.W.Frag} {H H' : Hp} (k : TK K H H') : ∀ {ks : List (Key × V)} {kvs : List (Str × T)}, KvOk K H ks kvs → KvOk K H' ks kvs
  | [], [], _ => trivial
  | _ :: _, _ :: _, ⟨a, b, c⟩ => ⟨a, b.tk k, KvOk.tk k c⟩
theorem KvOk.length {K : PySem.W.Frag} {H : Hp} : ∀ {ks : List (Key × V)} {kvs : List (Str × T)}, KvOk K H ks kvs → ks.length = kvs.length
  | [], [], _ => rfl
  | _ :: _, _ :: _, ⟨_, _, c⟩ => by rw [List.length_cons, List.length_cons, KvOk.length c]
/-- what a dict holds at a key; a key put -/
def dGet (kvs : List (Str × T)) (k : Str) : Option T := kvs.lookup k
def dPut (kvs : List (Str × T)) (k : Str) (t : T) : List (Str × T) := if kvs.any (fun p => p.1 == k) then kvs.map (fun p => if p.1 == k then (p.1, t) else p) else kvs ++ [(k, t)]
theorem KvOk.get {K : PySem.W.Frag} {H : Hp} {k : Str} : ∀ {ks : List (Key × V)} {kvs : List (Str × T)} {t : T}, KvOk K H ks kvs → dGet kvs k = some t → ∃ v, valV ks (.inr k) = some v ∧ Im K H v t
  | [], [], _, _, e => by simp [dGet] at e
  | p :: ks, q :: kvs, t, ⟨a, b, c⟩, e => by
    by_cases hk : q.1 = k
    · refine ⟨p.2, valV_pos (by rw [a, hk]), ?_⟩
      have e2 : dGet (q :: kvs) k = some q.2 := by
        obtain ⟨q1, q2⟩ := q
        simp only at hk
        subst hk
        simp [dGet, List.lookup_cons]
      rw [e2] at e
      cases e
      exact b
    · have e2 : dGet (q :: kvs) k = dGet kvs k := by
        obtain ⟨q1, q2⟩ := q
        simp only at hk
        have : (k == q1) = false := by simp [Ne.symm hk]
        simp [dGet, List.lookup_cons, this]
      rw [e2] at e
      obtain ⟨v, h1, h2⟩ := KvOk.get c e
      exact ⟨v, by rw [valV_neg (by rw [a]; intro z; exact hk (Sum.inr.inj z))]; exact h1, h2⟩
theorem KvOk.any {K : PySem.W.Frag} {H : Hp} {k : Str} : ∀ {ks : List (Key × V)} {kvs : List (Str × T)}, KvOk K H ks kvs → (ks.any fun kv => decide (kv.1 = (.inr k : Key))) = kvs.any fun p => p.1 == k
  | [], [], _ => rfl
  | p :: ks, q :: kvs, ⟨a, b, c⟩ => by
    rw [List.any_cons, List.any_cons, KvOk.any c, a]
    congr 1
    rw [Bool.eq_iff_iff]
    simp
theorem KvOk.app {K : PySem.W.Frag} {H : Hp} {p : Key × V} {q : Str × T} (h1 : p.1 = .inr q.1) (h2 : Im K H p.2 q.2) : ∀ {ks : List (Key × V)} {kvs : List (Str × T)}, KvOk K H ks kvs → KvOk K H (ks ++ [p]) (kvs ++ [q])
  | [], [], _ => ⟨h1, h2, trivial⟩
  | _ :: _, _ :: _, ⟨a, b, c⟩ => ⟨a, b, KvOk.app h1 h2 c⟩
theorem KvOk.repl {K : PySem.W.Frag} {H : Hp} {k : Str} {v : V} {t : T} (hv : Im K H v t) : ∀ {ks : List (Key × V)} {kvs : List (Str × T)}, KvOk K H ks kvs →
    KvOk K H (ks.map fun kv => if kv.1 = (.inr k : Key) then (kv.1, v) else kv) (kvs.map fun p => if p.1 == k then (p.1, t) else p)
  | [], [], _ => trivial
  | p :: ks, q :: kvs, ⟨a, b, c⟩ => by
    rw [List.map_cons, List.map_cons]
    by_cases hk : q.1 = k
    · have e1 : p.1 = (.inr k : Key) := by rw [a, hk]
      rw [if_pos e1, if_pos (by simp [hk])]
      exact ⟨a, hv, KvOk.repl hv c⟩
    · have e1 : ¬ p.1 = (.inr k : Key) := by rw [a]; intro z; exact hk (Sum.inr.inj z)
      rw [if_neg e1, if_neg (by simp [hk])]
      exact ⟨a, b, KvOk.repl hv c⟩
theorem KvOk.put {K : PySem.W.Frag} {H : Hp} {k : Str} {v : V} {t : T} {ks : List (Key × V)} {kvs : List (Str × T)} (h : KvOk K H ks kvs) (hv : Im K H v t) : KvOk K H (putK ks (.inr k) v) (dPut kvs k t) := by
  unfold putK dPut
  rw [KvOk.any h]
  by_cases hc : (kvs.any fun p => p.1 == k) = true
  · rw [if_pos hc, if_pos hc]
    exact h.repl hv
  · rw [if_neg hc, if_neg hc]
    exact h.app rfl hv

/-! ### what an argument, a slot holds -/
inductive A4 where
  | t (t : T) | s (ts : List T) | d (kvs : List (Str × T))
def ArgOk (K : PySem.W.Frag) (H : Hp) (v : V) : A4 → Prop
  | .t t => Im K H v t
  | .s ts => ∃ p xs, v = .ref p ∧ SqL K H p xs ∧ ImAll K H xs ts
  | .d kvs => ∃ p ks, v = .ref p ∧ H p = some (.dK ks) ∧ KvOk K H ks kvs
theorem ArgOk.mono {K : PySem.W.Frag} {H H' : Hp} (e : Same H H') {v : V} : ∀ {a : A4}, ArgOk K H v a → ArgOk K H' v a
  | .t _, h => Im.mono e h
  | .s _, ⟨p, xs, a, b, c⟩ => ⟨p, xs, a, e.seq b, c.mono e⟩
  | .d _, ⟨p, ks, a, b, c⟩ => ⟨p, ks, a, e _ _ b, c.tk (tk_same e)⟩
def ArgsOk (K : PySem.W.Frag) (H : Hp) : List V → List A4 → Prop
  | [], [] => True
  | v :: vs, a :: as => ArgOk K H v a ∧ ArgsOk K H vs as
  | _, _ => False
theorem ArgsOk.mono {K : PySem.W.Frag} {H H' : Hp} (e : Same H H') : ∀ {vs : List V} {as : List A4}, ArgsOk K H vs as → ArgsOk K H' vs as
  | [], [], _ => trivial
  | _ :: _, _ :: _, ⟨a, b⟩ => ⟨a.mono e, ArgsOk.mono e b⟩
theorem ArgsOk.length {K : PySem.W.Frag} {H : Hp} : ∀ {vs : List V} {as : List A4}, ArgsOk K H vs as → vs.length = as.length
  | [], [], _ => rfl
  | _ :: _, _ :: _, ⟨_, b⟩ => by rw [List.length_cons, List.length_cons, ArgsOk.length b]
theorem ArgsOk.all {K : PySem.W.Frag} {H : Hp} : ∀ {vs : List V} {ts : List T}, ArgsOk K H vs (ts.map A4.t) → ImAll K H vs ts
  | [], [], _ => .nil
  | _ :: _, _ :: _, ⟨a, b⟩ => .cons a (ArgsOk.all b)
/-- a new list, a new dict -/
def NewOk (K : PySem.W.Frag) (C H : Hp) (v : V) : A4 → Prop
  | .t t => Im K H v t
  | .s ts => ∃ p xs, v = .ref p ∧ C p = none ∧ H p = some (.lst xs) ∧ ImAll K H xs ts
  | .d kvs => ∃ p ks, v = .ref p ∧ C p = none ∧ H p = some (.dK ks) ∧ KvOk K H ks kvs
theorem NewOk.arg {K : PySem.W.Frag} {C H : Hp} {v : V} : ∀ {a : A4}, NewOk K C H v a → ArgOk K H v a
  | .t _, h => h
  | .s _, ⟨p, xs, a, _, b, c⟩ => ⟨p, xs, a, SqL.of b, c⟩
  | .d _, ⟨p, ks, a, _, b, c⟩ => ⟨p, ks, a, b, c⟩
theorem NewOk.mono {K : PySem.W.Frag} {C H H' : Hp} (e : Same H H') {v : V} : ∀ {a : A4}, NewOk K C H v a → NewOk K C H' v a
  | .t _, h => Im.mono e h
  | .s _, ⟨p, xs, a, n, b, c⟩ => ⟨p, xs, a, n, e _ _ b, c.mono e⟩
  | .d _, ⟨p, ks, a, n, b, c⟩ => ⟨p, ks, a, n, e _ _ b, c.tk (tk_same e)⟩
theorem NewOk.down {K : PySem.W.Frag} {C C' H : Hp} (e : Same C' C) {v : V} : ∀ {a : A4}, NewOk K C H v a → NewOk K C' H v a
  | .t _, h => h
  | .s _, ⟨p, xs, a, n, b, c⟩ => ⟨p, xs, a, e.free n, b, c⟩
  | .d _, ⟨p, ks, a, n, b, c⟩ => ⟨p, ks, a, e.free n, b, c⟩

/-- the attributes of a Watch -/
def wfs (vr vt : V) (l : Addr) : List (Str × V) := [("own_row", vr), ("own_told", vt), ("own_states", .ref l)]
inductive Sl where
  | no | val (t : T) | sq (ts : List T) | sd (kvs : List (Str × T)) | rb (ts : List T) | own (ts : List T) | dic (kvs : List (Str × T)) | raw (v : V)
  /-- an instance of the class at C that is only read: its row, its words, its states -/
  | ob (C : Addr) (r told : T) (sts : List T)
  /-- the urn, at p -/
  | urn (p : Addr) (u : Int × Int × Int)
def urnV (u : Int × Int × Int) : List V := [.int u.1, .int u.2.1, .int u.2.2]
/-- mutable, one's own -/
def Sl.mine : Sl → Bool
  | .own _ => true
  | .dic _ => true
  | .urn _ _ => true
  | _ => false
def SlOk (K : PySem.W.Frag) (C B H : Hp) (o : Option V) : Sl → Prop
  | .no => True
  | .val t => ∃ v, o = some v ∧ Im K H v t
  | .sq ts => ∃ p xs, o = some (.ref p) ∧ SqL K C p xs ∧ ImAll K H xs ts
  | .sd kvs => ∃ p ks, o = some (.ref p) ∧ C p = some (.dK ks) ∧ KvOk K H ks kvs
  | .rb ts => ∃ p xs, o = some (.ref p) ∧ SqL K B p xs ∧ ImAll K H xs ts
  | .own ts => ∃ p xs, o = some (.ref p) ∧ B p = none ∧ H p = some (.lst xs) ∧ ImAll K H xs ts
  | .dic kvs => ∃ p ks, o = some (.ref p) ∧ B p = none ∧ H p = some (.dK ks) ∧ KvOk K H ks kvs
  | .raw v => o = some v
  | .ob Cl r told sts => ∃ p dx vr vt l xs, o = some (.ref p) ∧ B p = some (.ins Cl dx (wfs vr vt l)) ∧ B l = some (.lst xs) ∧ Im K H vr r ∧ Im K H vt told ∧ ImAll K H xs sts
  | .urn p u => o = some (.ref p) ∧ B p = none ∧ H p = some (.lst (urnV u))
theorem SlOk.tk {K : PySem.W.Frag} {C B H H' : Hp} (k : TK K H H') {o : Option V} : ∀ {a : Sl}, (a.mine = true → ∀ p, o = some (.ref p) → H' p = H p) → SlOk K C B H o a → SlOk K C B H' o a
  | .no, _, _ => trivial
  | .val _, _, ⟨v, a, b⟩ => ⟨v, a, b.tk k⟩
  | .sq _, _, ⟨p, xs, a, b, c⟩ => ⟨p, xs, a, b, c.tk k⟩
  | .sd _, _, ⟨p, ks, a, b, c⟩ => ⟨p, ks, a, b, c.tk k⟩
  | .rb _, _, ⟨p, xs, a, b, c⟩ => ⟨p, xs, a, b, c.tk k⟩
  | .own _, h, ⟨p, xs, a, n, b, c⟩ => ⟨p, xs, a, n, (h rfl p a).trans b, c.tk k⟩
  | .dic _, h, ⟨p, xs, a, n, b, c⟩ => ⟨p, xs, a, n, (h rfl p a).trans b, c.tk k⟩
  | .raw _, _, h => h
  | .urn p _, h, ⟨a, n, b⟩ => ⟨a, n, (h rfl p a).trans b⟩
  | .ob .., _, ⟨p, dx, vr, vt, l, xs, a, b, c, d, e, f⟩ => ⟨p, dx, vr, vt, l, xs, a, b, c, d.tk k, e.tk k, f.tk k⟩
theorem SlOk.mono {K : PySem.W.Frag} {C B H H' : Hp} (e : Same H H') {o : Option V} : ∀ {a : Sl}, SlOk K C B H o a → SlOk K C B H' o a
  | .no, _ => trivial
  | .val _, ⟨v, a, b⟩ => ⟨v, a, b.mono e⟩
  | .sq _, ⟨p, xs, a, b, c⟩ => ⟨p, xs, a, b, c.mono e⟩
  | .sd _, ⟨p, ks, a, b, c⟩ => ⟨p, ks, a, b, c.tk (tk_same e)⟩
  | .rb _, ⟨p, xs, a, b, c⟩ => ⟨p, xs, a, b, c.mono e⟩
  | .own _, ⟨p, xs, a, n, b, c⟩ => ⟨p, xs, a, n, e _ _ b, c.mono e⟩
  | .dic _, ⟨p, xs, a, n, b, c⟩ => ⟨p, xs, a, n, e _ _ b, c.tk (tk_same e)⟩
  | .raw _, h => h
  | .urn _ _, ⟨a, n, b⟩ => ⟨a, n, e _ _ b⟩
  | .ob .., ⟨p, dx, vr, vt, l, xs, a, b, c, d, f, g⟩ => ⟨p, dx, vr, vt, l, xs, a, b, c, d.mono e, f.mono e, g.mono e⟩

/-- C: where the lists and dicts handed in stand; B: what stays, ones own things not in it -/
structure StR (K : PySem.W.Frag) (C B : Hp) (σ : L2.St) (H : Hp) (ρ : List Sl) : Prop where
  cb : Same C B
  base : Same B H
  len : ρ.length = σ.length
  slots : ∀ (i : Nat) (a : Sl), ρ[i]? = some a → SlOk K C B H (σ[i]?).join a
  apart : ∀ (i j : Nat) (a b : Sl), i ≠ j → ρ[i]? = some a → ρ[j]? = some b → a.mine = true → b.mine = true → (σ[i]?).join ≠ (σ[j]?).join
theorem join_set {σ : L2.St} {i j : Nat} {o : Option V} : ((σ.set i o)[j]?).join = if i = j ∧ i < σ.length then o else (σ[j]?).join := by
  by_cases h : i = j
  · subst h
    by_cases h2 : i < σ.length
    · rw [List.getElem?_set_self h2, if_pos ⟨rfl, h2⟩]
      rfl
    · rw [if_neg (fun z => h2 z.2), List.getElem?_eq_none (by rw [List.length_set]; omega), List.getElem?_eq_none (by omega)]
  · rw [List.getElem?_set_ne h, if_neg (fun z => h z.1)]
theorem join_some {σ : L2.St} {i : Nat} {v : V} (e : (σ[i]?).join = some v) : σ[i]? = some (some v) := by
  cases q : σ[i]? with
  | none => rw [q] at e; cases e
  | some o =>
    rw [q] at e
    have e' : o = some v := e
    rw [e']
section
variable {K : PySem.W.Frag} {C B H H' : Hp} {σ : L2.St} {ρ : List Sl}
theorem StR.mono (r : StR K C B σ H ρ) (e : Same H H') : StR K C B σ H' ρ := ⟨r.cb, r.base.trans e, r.len, fun i a h => (r.slots i a h).mono e, r.apart⟩
theorem SlOk.known {o : Option V} {a : Sl} {p : Addr} (h : SlOk K C B H o a) (m : a.mine = true) (e : o = some (.ref p)) : B p = none ∧ (∀ xs, H p ≠ some (.tup xs)) ∧ (∀ u xs, H p ≠ some (.frz u xs)) ∧ H p ≠ none := by
  cases a with
  | own ts =>
    obtain ⟨q, xs, e1, n, b, _⟩ := h
    have : q = p := by rw [e] at e1; cases e1; rfl
    subst this
    exact ⟨n, fun xs z => (by rw [b] at z; cases z), fun u xs z => (by rw [b] at z; cases z), fun z => (by rw [b] at z; cases z)⟩
  | dic ts =>
    obtain ⟨q, xs, e1, n, b, _⟩ := h
    have : q = p := by rw [e] at e1; cases e1; rfl
    subst this
    exact ⟨n, fun xs z => (by rw [b] at z; cases z), fun u xs z => (by rw [b] at z; cases z), fun z => (by rw [b] at z; cases z)⟩
  | urn q u =>
    obtain ⟨e1, n, b⟩ := h
    have : q = p := by rw [e] at e1; cases e1; rfl
    subst this
    exact ⟨n, fun xs z => (by rw [b] at z; cases z), fun u xs z => (by rw [b] at z; cases z), fun z => (by rw [b] at z; cases z)⟩
  | _ => cases m
/-- a slot stored anew: nothing of ones own, or a new one -/
theorem StR.set {i : Nat} {v : V} {a : Sl} (r : StR K C B σ H ρ) (ha : SlOk K C B H (some v) a) (hn : a.mine = true → ∀ (j : Nat) (b : Sl), ρ[j]? = some b → b.mine = true → j ≠ i → (σ[j]?).join ≠ some v) : StR K C B (σ.set i (some v)) H (ρ.set i a) := by
  have hl := r.len
  refine ⟨r.cb, r.base, by simp [hl], fun j b h => ?_, fun j k b c hjk hb hc mb mc => ?_⟩
  · rw [join_set]
    by_cases e : i = j ∧ i < σ.length
    · rw [if_pos e]
      obtain ⟨e, hi⟩ := e
      subst e
      rw [List.getElem?_set_self (by omega)] at h
      cases h
      exact ha
    · rw [if_neg e]
      by_cases e2 : i = j
      · subst e2
        rw [List.getElem?_eq_none (by rw [List.length_set]; omega)] at h
        cases h
      · rw [List.getElem?_set_ne e2] at h
        exact r.slots j b h
  · have gt : ∀ {j : Nat} {b : Sl}, (ρ.set i a)[j]? = some b → (j = i ∧ i < ρ.length ∧ b = a) ∨ (j ≠ i ∧ ρ[j]? = some b) := fun {j b} h => by
      by_cases e : i = j
      · subst e
        by_cases hi : i < ρ.length
        · rw [List.getElem?_set_self hi] at h
          cases h
          exact .inl ⟨rfl, hi, rfl⟩
        · rw [List.getElem?_eq_none (by rw [List.length_set]; omega)] at h
          cases h
      · rw [List.getElem?_set_ne e] at h
        exact .inr ⟨Ne.symm e, h⟩
    rw [join_set, join_set]
    rcases gt hb with ⟨e1, l1, b1⟩ | ⟨e1, b1⟩ <;> rcases gt hc with ⟨e2, l2, b2⟩ | ⟨e2, b2⟩
    · exact absurd (e1.trans e2.symm) hjk
    · subst e1; subst b1
      rw [if_pos ⟨rfl, by omega⟩, if_neg (fun z => e2 z.1.symm)]
      exact fun z => hn mb k c b2 mc e2 z.symm
    · subst e2; subst b2
      rw [if_neg (fun z => e1 z.1.symm), if_pos ⟨rfl, by omega⟩]
      exact hn mc j b b1 mb e1
    · rw [if_neg (fun z => e1 z.1.symm), if_neg (fun z => e2 z.1.symm)]
      exact r.apart j k b c hjk b1 b2 mb mc
theorem StR.setv {i : Nat} {v : V} {a : Sl} (r : StR K C B σ H ρ) (ha : SlOk K C B H (some v) a) (hn : a.mine = false) : StR K C B (σ.set i (some v)) H (ρ.set i a) :=
  r.set ha fun h => by rw [hn] at h; cases h
/-- less is known -/
theorem StR.less {ρ' : List Sl} (r : StR K C B σ H ρ) (hl : ρ'.length = ρ.length) (h : ∀ (i : Nat) (b : Sl), ρ'[i]? = some b → b = .no ∨ ρ[i]? = some b) : StR K C B σ H ρ' := by
  refine ⟨r.cb, r.base, hl.trans r.len, fun i b hb => ?_, fun i j a b hij ha hb ma mb => ?_⟩
  · rcases h i b hb with e | e
    · subst e; trivial
    · exact r.slots i b e
  · rcases h i a ha with e | e
    · subst e; cases ma
    · rcases h j b hb with e2 | e2
      · subst e2; cases mb
      · exact r.apart i j a b hij e e2 ma mb
/-- the slots forgotten -/
theorem StR.forget {i : Nat} (r : StR K C B σ H ρ) : StR K C B σ H (ρ.set i .no) := r.less (by simp) fun j b h => by
  by_cases e : i = j
  · subst e
    by_cases hi : i < ρ.length
    · rw [List.getElem?_set_self hi] at h
      exact .inl (Option.some.inj h).symm
    · rw [List.getElem?_eq_none (by rw [List.length_set]; omega)] at h
      cases h
  · rw [List.getElem?_set_ne e] at h
    exact .inr h
/-- the stored values of some slots forgotten (a comprehension's block) -/
theorem StR.drop {i : Nat} (r : StR K C B σ H ρ) : StR K C B (σ.set i none) H (ρ.set i .no) := by
  have hl := r.len
  refine ⟨r.cb, r.base, by simp [hl], fun j b h => ?_, fun j k b c hjk hb hc mb mc => ?_⟩
  · by_cases e : i = j
    · subst e
      by_cases hi : i < ρ.length
      · rw [List.getElem?_set_self hi] at h
        cases h
        trivial
      · rw [List.getElem?_eq_none (by rw [List.length_set]; omega)] at h
        cases h
    · rw [join_set, if_neg (fun z => e z.1)]
      rw [List.getElem?_set_ne e] at h
      exact r.slots j b h
  · have gt : ∀ {j : Nat} {b : Sl}, (ρ.set i .no)[j]? = some b → b.mine = true → i ≠ j ∧ ρ[j]? = some b := fun {j b} h m => by
      by_cases e : i = j
      · subst e
        by_cases hi : i < ρ.length
        · rw [List.getElem?_set_self hi] at h
          cases h
          cases m
        · rw [List.getElem?_eq_none (by rw [List.length_set]; omega)] at h
          cases h
      · rw [List.getElem?_set_ne e] at h
        exact ⟨e, h⟩
    obtain ⟨e1, b1⟩ := gt hb mb
    obtain ⟨e2, b2⟩ := gt hc mc
    rw [join_set, join_set, if_neg (fun z => e1 z.1), if_neg (fun z => e2 z.1)]
    exact r.apart j k b c hjk b1 b2 mb mc
/-- ones own object at slot i changed -/
theorem StR.write {i : Nat} {p : Addr} {u : HO} {a b : Sl} (r : StR K C B σ H ρ) (hi : ρ[i]? = some a) (ma : a.mine = true) (hp : (σ[i]?).join = some (.ref p))
    (hb : TK K H (upd H p u) → SlOk K C B (upd H p u) (some (.ref p)) b) : StR K C B σ (upd H p u) (ρ.set i b) := by
  have hil : i < ρ.length := (List.getElem?_eq_some_iff.mp hi).1
  obtain ⟨hc, n1, n2, n3⟩ := (r.slots i a hi).known ma hp
  have k : TK K H (upd H p u) := tk_upd n1 fun u xs => n2 u xs
  refine ⟨r.cb, same_mut r.base hc, by rw [List.length_set]; exact r.len, fun j c h => ?_, fun j l c d hjl h1 h2 m1 m2 => ?_⟩
  · by_cases e : i = j
    · subst e
      rw [List.getElem?_set_self hil] at h
      cases h
      rw [hp]
      exact hb k
    · rw [List.getElem?_set_ne e] at h
      refine SlOk.tk k (fun m q z => ?_) (r.slots j c h)
      have := r.apart i j a c e hi h ma m
      rw [upd_ne]
      intro z2
      subst z2
      exact this (by rw [hp, z])
  · have gt : ∀ {j : Nat} {c : Sl}, (ρ.set i b)[j]? = some c → c.mine = true → ∃ c', ρ[j]? = some c' ∧ c'.mine = true := fun {j c} h m => by
      by_cases e : i = j
      · subst e
        exact ⟨a, hi, ma⟩
      · rw [List.getElem?_set_ne e] at h
        exact ⟨c, h, m⟩
    obtain ⟨c', g1, g2⟩ := gt h1 m1
    obtain ⟨d', g3, g4⟩ := gt h2 m2
    exact r.apart j l c' d' hjl g1 g3 g2 g4

/-! ### another base -/
def Sl.unrb : Sl → Sl
  | .rb _ => .no
  | .ob .. => .no
  | a => a
theorem StR.down {B' : Hp} (r : StR K C B σ H ρ) (c : Same C B') (e : Same B' B) : StR K C B' σ H (ρ.map Sl.unrb) := by
  have gt : ∀ {i : Nat} {a : Sl}, (ρ.map Sl.unrb)[i]? = some a → ∃ b, ρ[i]? = some b ∧ a = b.unrb := fun {i a} h => by
    rw [List.getElem?_map] at h
    cases q : ρ[i]? with
    | none => rw [q] at h; cases h
    | some b =>
      rw [q] at h
      exact ⟨b, rfl, (Option.some.inj h).symm⟩
  refine ⟨c, e.trans r.base, by rw [List.length_map]; exact r.len, fun i a ha => ?_, fun i j a b hij ha hb ma mb => ?_⟩
  · obtain ⟨b, hb, eb⟩ := gt ha
    subst eb
    have q := r.slots i b hb
    cases b with
    | no => trivial
    | val t => exact q
    | sq ts => exact q
    | sd kvs => exact q
    | rb ts => trivial
    | own ts =>
      obtain ⟨p, xs, h1, n, h2, h3⟩ := q
      exact ⟨p, xs, h1, e.free n, h2, h3⟩
    | dic kvs =>
      obtain ⟨p, xs, h1, n, h2, h3⟩ := q
      exact ⟨p, xs, h1, e.free n, h2, h3⟩
    | raw v => exact q
    | ob _ _ _ _ => trivial
    | urn p u =>
      obtain ⟨h1, n, h2⟩ := q
      exact ⟨h1, e.free n, h2⟩
  · obtain ⟨a', ha', ea⟩ := gt ha
    obtain ⟨b', hb', eb⟩ := gt hb
    subst ea; subst eb
    have m : ∀ {a : Sl}, a.unrb.mine = true → a.mine = true := fun {a} h => by cases a <;> first | exact h | cases h
    exact r.apart i j a' b' hij ha' hb' (m ma) (m mb)
/-- the addresses of ones own things -/
def OwnAt (σ : L2.St) (ρ : List Sl) (p : Addr) : Prop := ∃ (i : Nat) (a : Sl), ρ[i]? = some a ∧ a.mine = true ∧ (σ[i]?).join = some (.ref p)
open Classical in
/-- all that stands but ones own -/
noncomputable def calm (σ : L2.St) (ρ : List Sl) (H : Hp) : Hp := fun p => if OwnAt σ ρ p then none else H p
theorem calm_of {p : Addr} (h : ¬ OwnAt σ ρ p) : calm σ ρ H p = H p := by unfold calm; rw [if_neg h]
theorem calm_no {p : Addr} (h : OwnAt σ ρ p) : calm σ ρ H p = none := by unfold calm; rw [if_pos h]
theorem calm_same : Same (calm σ ρ H) H := fun p o e => by
  by_cases h : OwnAt σ ρ p
  · rw [calm_no h] at e; cases e
  · rw [calm_of h] at e; exact e
theorem StR.own_none (r : StR K C B σ H ρ) {p : Addr} (h : OwnAt σ ρ p) : B p = none ∧ (∀ xs, H p ≠ some (.tup xs)) ∧ (∀ u xs, H p ≠ some (.frz u xs)) ∧ H p ≠ none := by
  obtain ⟨i, a, h1, h2, h3⟩ := h
  exact (r.slots i a h1).known h2 h3
theorem StR.calm_b (r : StR K C B σ H ρ) : Same B (calm σ ρ H) := fun p o e => by
  by_cases h : OwnAt σ ρ p
  · rw [(r.own_none h).1] at e; cases e
  · rw [calm_of h]; exact r.base p o e
theorem StR.calm_t (r : StR K C B σ H ρ) {a : Addr} {xs : List V} (h : SqT K H a xs) : SqT K (calm σ ρ H) a xs := by
  rcases h with (h | ⟨o, h⟩) | h
  · refine .inl (.inl ?_)
    rw [calm_of]
    · exact h
    · intro z; exact (r.own_none z).2.1 _ h
  · refine .inl (.inr ⟨o, ?_⟩)
    rw [calm_of]
    · exact h
    · intro z; exact (r.own_none z).2.2.1 _ _ h
  · exact .inr h
theorem StR.calm_l (r : StR K C B σ H ρ) {a : Addr} {xs : List V} (h : SqL K H a xs) (hn : ¬ OwnAt σ ρ a) : SqL K (calm σ ρ H) a xs := by
  rcases h with (h | ⟨o, h⟩) | h
  · exact .inl (.inl (by rw [calm_of hn]; exact h))
  · exact .inl (.inr ⟨o, by rw [calm_of hn]; exact h⟩)
  · exact .inr h
mutual
theorem StR.calm_im (r : StR K C B σ H ρ) : ∀ {t : T} {v : V}, Im K H v t → Im K (calm σ ρ H) v t
  | .non, _, h => by cases h; exact .non
  | .bl _, _, h => by cases h; exact .bl _
  | .int _, _, h => by cases h; exact .int _
  | .str _, _, h => by cases h; exact .str _
  | .tup ts, _, h => by
    cases h with
    | tup hs ha => exact .tup (r.calm_t hs) (StR.calm_ims r ha)
  | .tuf _, _, h => by
    cases h with
    | tuf hs hd =>
      refine .tuf (o := _) ?_ hd
      rw [calm_of]
      · exact hs
      · intro z; exact (r.own_none z).2.2.1 _ _ hs
  | .lst ts, _, h => by
    cases h with
    | lst hs ha =>
      exact .lst ((calm_of fun z => (r.own_none z).2.2.1 _ _ hs).trans hs) (StR.calm_ims r ha)
theorem StR.calm_ims (r : StR K C B σ H ρ) : ∀ {ts : List T} {vs : List V}, ImAll K H vs ts → ImAll K (calm σ ρ H) vs ts
  | [], _, h => by cases h; exact .nil
  | t :: ts, _, h => by
    cases h with
    | cons h1 h2 => exact .cons (StR.calm_im r h1) (StR.calm_ims r h2)
end
/-- all but ones own as the base -/
theorem StR.calm (r : StR K C B σ H ρ) : StR K C (calm σ ρ H) σ H ρ := by
  refine ⟨r.cb.trans r.calm_b, calm_same, r.len, fun i a ha => ?_, r.apart⟩
  have q := r.slots i a ha
  cases a with
  | no => trivial
  | val t => exact q
  | sq ts => exact q
  | sd kvs => exact q
  | rb ts =>
    obtain ⟨p, xs, h1, h2, h3⟩ := q
    exact ⟨p, xs, h1, r.calm_b.seq h2, h3⟩
  | own ts =>
    obtain ⟨p, xs, h1, n, h2, h3⟩ := q
    exact ⟨p, xs, h1, calm_no ⟨i, _, ha, rfl, h1⟩, h2, h3⟩
  | dic kvs =>
    obtain ⟨p, xs, h1, n, h2, h3⟩ := q
    exact ⟨p, xs, h1, calm_no ⟨i, _, ha, rfl, h1⟩, h2, h3⟩
  | raw v => exact q
  | ob _ _ _ _ =>
    obtain ⟨p, dx, vr, vt, l, xs, a, b, c, d⟩ := q
    exact ⟨p, dx, vr, vt, l, xs, a, r.calm_b _ _ b, r.calm_b _ _ c, d⟩
  | urn p u =>
    obtain ⟨h1, n, h2⟩ := q
    exact ⟨h1, calm_no ⟨i, _, ha, rfl, h1⟩, h2⟩
end
end Nine
set_option maxHeartbeats 4000000
/-! K9B: the judgements: expressions, tests, arguments. -/
namespace Nine
open PySem PySem.Spec PyProof.Rows L2

/-- an expression that changes nothing that stood: R of the base, the heap ahead, the value, the heap behind -/
def PyG (X : Cx) (e : Expr) (ρ : List Sl) (R : Hp → V → Hp → Prop) : Prop :=
  ∀ (pins : List (Addr × Obj)) (s : Shared) (σ : L2.St) (H C B : Hp), Inv X pins σ H s → StR X.K C B σ H ρ →
    wpAny (model X.prog X.w) X.A (eval e X.env) (EP X pins σ fun v H' => Same H H' ∧ R H v H') X.xe s
/-- a heap that is held -/
def Wf (X : Cx) (H : Hp) : Prop := ∃ pins σ s, Inv X pins σ H s
theorem Wf.tup {X : Cx} {H : Hp} {a : Addr} {xs : List V} (w : Wf X H) (h : SqT X.K H a xs) : xs.length ≤ sizeLine := by
  obtain ⟨_, _, _, I⟩ := w
  obtain ⟨_, _, _, z⟩ := I.tuple h
  exact z
theorem Wf.lst {X : Cx} {H : Hp} {a : Addr} {xs : List V} (w : Wf X H) (h : SqL X.K H a xs) : xs.length ≤ sizeLine := by
  obtain ⟨_, _, _, I⟩ := w
  obtain ⟨_, _, _, z⟩ := I.list h
  exact z
abbrev PyA (X : Cx) (e : Expr) (ρ : List Sl) (a : A4) : Prop := PyG X e ρ fun _ v H' => ArgOk X.K H' v a
abbrev Py (X : Cx) (e : Expr) (ρ : List Sl) (t : T) : Prop := PyA X e ρ (.t t)
abbrev PyS (X : Cx) (e : Expr) (ρ : List Sl) (ts : List T) : Prop := PyA X e ρ (.s ts)
/-- a new list, a new dict -/
abbrev PyN (X : Cx) (e : Expr) (ρ : List Sl) (a : A4) : Prop := PyG X e ρ fun H v H' => NewOk X.K H H' v a
abbrev PyL (X : Cx) (e : Expr) (ρ : List Sl) (ts : List T) : Prop := PyN X e ρ (.s ts)
def Pt (X : Cx) (e : Expr) (ρ : List Sl) (b : Bool) : Prop :=
  ∀ (pins : List (Addr × Obj)) (s : Shared) (σ : L2.St) (H C B : Hp), Inv X pins σ H s → StR X.K C B σ H ρ →
    wpAny (model X.prog X.w) X.A (isTrue e X.env (eval e X.env)) (TP X pins σ fun k H' => Same H H' ∧ k = b) X.xe s
def PaA (X : Cx) (es : List Expr) (ρ : List Sl) (as : List A4) : Prop :=
  ∀ (pos : Pos) (pins : List (Addr × Obj)) (s : Shared) (σ : L2.St) (H C B : Hp), Inv X pins σ H s → StR X.K C B σ H ρ →
    wpAny (model X.prog X.w) X.A (spliced (backTo pos (starEach es X.env))) (AP X pins σ fun vs H' => Same H H' ∧ ArgsOk X.K H' vs as) X.xe s
abbrev Pa (X : Cx) (es : List Expr) (ρ : List Sl) (ts : List T) : Prop := PaA X es ρ (ts.map A4.t)

/-! ### to the layer's readings and back -/
def tG (X : Cx) (e : Expr) : TE := fun σ H Q => ∃ ρ C B R, PyG X e ρ R ∧ StR X.K C B σ H ρ ∧ ∀ v H', Same H H' → R H v H' → Wf X H' → Q v H'
def tGT (X : Cx) (e : Expr) : TT := fun σ H Q => ∃ ρ C B b, Pt X e ρ b ∧ StR X.K C B σ H ρ ∧ ∀ H', Same H H' → Q b H'
def tGA (X : Cx) (es : List Expr) : TA := fun σ H Q => ∃ ρ C B as, PaA X es ρ as ∧ StR X.K C B σ H ρ ∧ ∀ vs H', Same H H' → ArgsOk X.K H' vs as → Wf X H' → Q vs H'
section
variable {X : Cx} {e a b c : Expr} {es : List Expr} {ρ : List Sl} {pos : Pos}
theorem pe_g : PE X e (tG X e) := ⟨fun pins s σ H Q I h => by
  obtain ⟨ρ, C, B, R, g, r, k⟩ := h
  refine thn (g pins s σ H C B I r) fun u s' ⟨v, H', I', rv, sm, q⟩ => ⟨v, H', I', rv, k v H' sm q ⟨_, _, _, I'⟩⟩⟩
theorem pt_g : PT X e (tGT X e) := ⟨fun pins s σ H Q I h => by
  obtain ⟨ρ, C, B, b, g, r, k⟩ := h
  refine thn (g pins s σ H C B I r) fun k' s' ⟨H', I', sm, q⟩ => ⟨H', I', ?_⟩
  subst q
  exact k H' sm⟩
theorem pa_g : PA X es (tGA X es) := ⟨fun pos pins s σ H Q I h => by
  obtain ⟨ρ, C, B, as, g, r, k⟩ := h
  refine thn (g pos pins s σ H C B I r) fun us s' ⟨vs, H', I', rv, sm, q⟩ => ⟨vs, H', I', rv, k vs H' sm q ⟨_, _, _, I'⟩⟩⟩
theorem PyG.of {R : Hp → V → Hp → Prop} {t : TE} (h : PE X e t) (y : ∀ σ H C B, StR X.K C B σ H ρ → t σ H fun v H' => Same H H' ∧ R H v H') : PyG X e ρ R :=
  fun pins s σ H C B I r => h.run pins s σ H _ I (y σ H C B r)
theorem PyG.imp {R R' : Hp → V → Hp → Prop} (h : PyG X e ρ R) (k : ∀ H v H', Same H H' → R H v H' → R' H v H') : PyG X e ρ R' :=
  fun pins s σ H C B I r => thn (h pins s σ H C B I r) fun u s' ⟨v, H', I', rv, sm, q⟩ => ⟨v, H', I', rv, sm, k H v H' sm q⟩
theorem PyN.arg {x : A4} (h : PyN X e ρ x) : PyA X e ρ x := h.imp fun _ _ _ _ q => q.arg
theorem PyA.eq {x y : A4} (h : PyA X e ρ x) (z : x = y) : PyA X e ρ y := z ▸ h
theorem Py.eq {x y : T} (h : Py X e ρ x) (z : x = y) : Py X e ρ y := z ▸ h
theorem PyL.eq {x y : List T} (h : PyL X e ρ x) (z : x = y) : PyL X e ρ y := z ▸ h
theorem Pt.eq {x y : Bool} (h : Pt X e ρ x) (z : x = y) : Pt X e ρ y := z ▸ h
theorem Pt.of {k : Bool} {t : TT} (h : PT X e t) (y : ∀ σ H C B, StR X.K C B σ H ρ → t σ H fun b H' => Same H H' ∧ b = k) : Pt X e ρ k :=
  fun pins s σ H C B I r => h.run pins s σ H _ I (y σ H C B r)
theorem PaA.of {as : List A4} {t : TA} (h : PA X es t) (y : ∀ σ H C B, StR X.K C B σ H ρ → t σ H fun vs H' => Same H H' ∧ ArgsOk X.K H' vs as) : PaA X es ρ as :=
  fun pos pins s σ H C B I r => h.run pos pins s σ H _ I (y σ H C B r)
/-- use within a reading -/
theorem g_useW {σ : L2.St} {H C B : Hp} {R : Hp → V → Hp → Prop} {Q : VK} (g : PyG X e ρ R) (r : StR X.K C B σ H ρ) (k : ∀ v H', Same H H' → R H v H' → Wf X H' → Q v H') : tG X e σ H Q := ⟨ρ, C, B, R, g, r, k⟩
theorem g_use {σ : L2.St} {H C B : Hp} {R : Hp → V → Hp → Prop} {Q : VK} (g : PyG X e ρ R) (r : StR X.K C B σ H ρ) (k : ∀ v H', Same H H' → R H v H' → Q v H') : tG X e σ H Q := ⟨ρ, C, B, R, g, r, fun v H' s q _ => k v H' s q⟩
theorem gt_use {σ : L2.St} {H C B : Hp} {k : Bool} {Q : Bool → Hp → Prop} (g : Pt X e ρ k) (r : StR X.K C B σ H ρ) (q : ∀ H', Same H H' → Q k H') : tGT X e σ H Q := ⟨ρ, C, B, k, g, r, q⟩
theorem ga_use {σ : L2.St} {H C B : Hp} {as : List A4} {Q : List V → Hp → Prop} (g : PaA X es ρ as) (r : StR X.K C B σ H ρ) (q : ∀ vs H', Same H H' → ArgsOk X.K H' vs as → Q vs H') : tGA X es σ H Q := ⟨ρ, C, B, as, g, r, fun v H' s a _ => q v H' s a⟩
theorem ga_useW {σ : L2.St} {H C B : Hp} {as : List A4} {Q : List V → Hp → Prop} (g : PaA X es ρ as) (r : StR X.K C B σ H ρ) (q : ∀ vs H', Same H H' → ArgsOk X.K H' vs as → Wf X H' → Q vs H') : tGA X es σ H Q := ⟨ρ, C, B, as, g, r, q⟩

/-! ### names, constants -/
theorem sl_val {K : PySem.W.Frag} {C B H : Hp} {σ : L2.St} {i : Nat} {t : T} (r : StR K C B σ H ρ) (h : ρ[i]? = some (.val t)) : ∃ v, σ[i]? = some (some v) ∧ Im K H v t := by
  obtain ⟨v, e, m⟩ := r.slots i _ h
  cases q : σ[i]? with
  | none => rw [q] at e; cases e
  | some o =>
    rw [q] at e
    have e' : o = some v := e
    exact ⟨v, by rw [e'], m⟩
/-- the name in slot i -/
theorem yv (i : Nat) {x : Str} {t : T} (h : ρ[i]? = some (.val t) := by rfl) (hN : X.N[i]? = some x := by rfl) (hv : Vis X.env.scope x := by first | exact Or.inl rfl | exact Or.inr (Or.inl rfl) | exact Or.inr (Or.inr rfl)) (hd : (x == ("__debug__" : Str)) = false := by decide)
    (hcd : (x == ("__classdict__" : Str)) = false := by decide) : Py X (.Name x pos) ρ t := PyG.of (pe_var hN hv hd hcd) fun σ H C B r => by
  obtain ⟨v, e, m⟩ := sl_val r h
  exact ⟨v, e, Same.refl H, m⟩
/-- a list in slot i -/
theorem yl (i : Nat) {x : Str} {ts : List T} (h : ρ[i]? = some (.own ts) ∨ ρ[i]? = some (.sq ts) ∨ ρ[i]? = some (.rb ts) := by first | exact Or.inl rfl | exact Or.inr (Or.inl rfl) | exact Or.inr (Or.inr rfl)) (hN : X.N[i]? = some x := by rfl) (hv : Vis X.env.scope x := by first | exact Or.inl rfl | exact Or.inr (Or.inl rfl) | exact Or.inr (Or.inr rfl)) (hd : (x == ("__debug__" : Str)) = false := by decide)
    (hcd : (x == ("__classdict__" : Str)) = false := by decide) : PyS X (.Name x pos) ρ ts := PyG.of (pe_var hN hv hd hcd) fun σ H C B r => by
  rcases h with h | h | h
  · obtain ⟨p, xs, e, _, e2, m⟩ := r.slots i _ h
    exact ⟨.ref p, join_some e, Same.refl H, p, xs, rfl, SqL.of e2, m⟩
  · obtain ⟨p, xs, e, e2, m⟩ := r.slots i _ h
    exact ⟨.ref p, join_some e, Same.refl H, p, xs, rfl, (r.cb.trans r.base).seq e2, m⟩
  · obtain ⟨p, xs, e, e2, m⟩ := r.slots i _ h
    exact ⟨.ref p, join_some e, Same.refl H, p, xs, rfl, r.base.seq e2, m⟩
/-- a dict in slot i -/
theorem yd (i : Nat) {x : Str} {kvs : List (Str × T)} (h : ρ[i]? = some (.dic kvs) ∨ ρ[i]? = some (.sd kvs) := by first | exact Or.inl rfl | exact Or.inr rfl) (hN : X.N[i]? = some x := by rfl) (hv : Vis X.env.scope x := by first | exact Or.inl rfl | exact Or.inr (Or.inl rfl) | exact Or.inr (Or.inr rfl)) (hd : (x == ("__debug__" : Str)) = false := by decide)
    (hcd : (x == ("__classdict__" : Str)) = false := by decide) : PyA X (.Name x pos) ρ (.d kvs) := PyG.of (pe_var hN hv hd hcd) fun σ H C B r => by
  rcases h with h | h
  · obtain ⟨p, xs, e, _, e2, m⟩ := r.slots i _ h
    exact ⟨.ref p, join_some e, Same.refl H, p, xs, rfl, e2, m⟩
  · obtain ⟨p, xs, e, e2, m⟩ := r.slots i _ h
    exact ⟨.ref p, join_some e, Same.refl H, p, xs, rfl, (r.cb.trans r.base) _ _ e2, m⟩
theorem y_int {i : Int} {j pos} : Py X (.Constant (.int i) j pos) ρ (.int i) := PyG.of pe_int fun σ H C B r => ⟨Same.refl H, .int i⟩
theorem y_bl {i : Bool} {j pos} : Py X (.Constant (.bool i) j pos) ρ (.bl i) := PyG.of pe_bl fun σ H C B r => ⟨Same.refl H, .bl i⟩
theorem y_non {j pos} : Py X (.Constant .none j pos) ρ .non := PyG.of pe_non fun σ H C B r => ⟨Same.refl H, .non⟩
theorem y_str {x : Str} {j pos} : Py X (.Constant (.str x) j pos) ρ (.str x) := PyG.of pe_str fun σ H C B r => ⟨Same.refl H, .str x⟩
/-- a module's constant -/
theorem y_gi {x : Str} {i : Int} (hm : ∃ t, X.mg x = some (.int i t)) (hg : Gl X x := by rfl) (hd : (x == ("__debug__" : Str)) = false := by decide) : Py X (.Name x pos) ρ (.int i) := by
  obtain ⟨t, hm⟩ := hm
  exact PyG.of (pe_glob (v := .int i) hg hm ⟨_, rfl⟩ hd) fun σ H C B r => ⟨Same.refl H, .int i⟩
theorem y_gs {x : Str} {i : Str} (hm : ∃ t, X.mg x = some (.str i t)) (hg : Gl X x := by rfl) (hd : (x == ("__debug__" : Str)) = false := by decide) : Py X (.Name x pos) ρ (.str i) := by
  obtain ⟨t, hm⟩ := hm
  exact PyG.of (pe_glob (v := .str i) hg hm ⟨_, rfl⟩ hd) fun σ H C B r => ⟨Same.refl H, .str i⟩

/-! ### operators -/
theorem y_op {op : Operator} {r : R2} {ra rb : Hp → V → Hp → Prop} {R : Hp → V → Hp → Prop} (ho : OpR X (binaryOp op) r) (ha : PyG X a ρ ra) (hb : PyG X b ρ rb)
    (k : ∀ H x H1 y H2, Same H H1 → Same H1 H2 → ra H x H1 → rb H1 y H2 → r x y H2 fun v H' => Same H H' ∧ R H v H') : PyG X (.BinOp a op b pos) ρ R :=
  PyG.of (pe_op ho pe_g pe_g) fun σ H C B st => g_use ha st fun x H1 s1 q1 => g_use hb (st.mono s1) fun y H2 s2 q2 => k H x H1 y H2 s1 s2 q1 q2
theorem y_add {i j : Int} (ha : Py X a ρ (.int i)) (hb : Py X b ρ (.int j)) : Py X (.BinOp a .Add b pos) ρ (.int (i + j)) :=
  y_op op_add ha hb fun H x H1 y H2 s1 s2 q1 q2 => ⟨i, j, Im.int_eq q1, Im.int_eq q2, s1.trans s2, .int _⟩
theorem y_sub {i j : Int} (ha : Py X a ρ (.int i)) (hb : Py X b ρ (.int j)) : Py X (.BinOp a .Sub b pos) ρ (.int (i - j)) :=
  y_op op_sub ha hb fun H x H1 y H2 s1 s2 q1 q2 => ⟨i, j, Im.int_eq q1, Im.int_eq q2, s1.trans s2, .int _⟩
theorem y_mul {i j : Int} (ha : Py X a ρ (.int i)) (hb : Py X b ρ (.int j)) (hc : CMul i j) : Py X (.BinOp a .Mult b pos) ρ (.int (i * j)) :=
  y_op op_mul ha hb fun H x H1 y H2 s1 s2 q1 q2 => ⟨i, j, Im.int_eq q1, Im.int_eq q2, hc, s1.trans s2, .int _⟩
theorem y_mod {i j : Int} (ha : Py X a ρ (.int i)) (hb : Py X b ρ (.int j)) (hc : 0 < j) : Py X (.BinOp a .Mod b pos) ρ (.int (i % j)) :=
  y_op op_mod ha hb fun H x H1 y H2 s1 s2 q1 q2 => ⟨i, j, Im.int_eq q1, Im.int_eq q2, hc, s1.trans s2, .int _⟩
theorem y_fdiv {i j : Int} (ha : Py X a ρ (.int i)) (hb : Py X b ρ (.int j)) (hc : CDiv i j) : Py X (.BinOp a .FloorDiv b pos) ρ (.int (i / j)) :=
  y_op op_fdiv ha hb fun H x H1 y H2 s1 s2 q1 q2 => ⟨i, j, Im.int_eq q1, Im.int_eq q2, hc, s1.trans s2, .int _⟩
theorem y_pow {i j : Int} (ha : Py X a ρ (.int i)) (hb : Py X b ρ (.int j)) (hc : CPow i j) : Py X (.BinOp a .Pow b pos) ρ (.int (i ^ j.toNat)) :=
  y_op op_pow ha hb fun H x H1 y H2 s1 s2 q1 q2 => ⟨i, j, Im.int_eq q1, Im.int_eq q2, hc, s1.trans s2, .int _⟩
theorem y_neg {i : Int} (ha : Py X a ρ (.int i)) : Py X (.UnaryOp .USub a pos) ρ (.int (-i)) :=
  PyG.of (pe_un un_neg pe_g) fun σ H C B st => g_use ha st fun x H1 s1 q1 => ⟨i, Im.int_eq q1, s1, .int _⟩

/-! ### comparisons -/
theorem y_cmp {op : CmpOp} {r : R2} {ra rb : Hp → V → Hp → Prop} {k : Bool} (ho : OpR X (compareOp op) r) (ha : PyG X a ρ ra) (hb : PyG X b ρ rb) (hm : behindInMarks op b = false)
    (q : ∀ H x H1 y H2 (Q : VK), Same H H1 → Same H1 H2 → ra H x H1 → rb H1 y H2 → (∀ H', Same H H' → Q (.bl k) H') → r x y H2 Q) : Py X (.Compare a [op] [b] pos) ρ (.bl k) :=
  PyG.of (pe_cmpR ho pe_g pe_g hm) fun σ H C B st => g_use ha st fun x H1 s1 q1 => g_use hb (st.mono s1) fun y H2 s2 q2 => q H x H1 y H2 _ s1 s2 q1 q2 fun H' s' => ⟨s', .bl k⟩
theorem t_cmp {op : CmpOp} {r : R2} {ra rb : Hp → V → Hp → Prop} {k : Bool} (ho : OpR X (compareOp op) r) (ha : PyG X a ρ ra) (hb : PyG X b ρ rb) (hm : behindInMarks op b = false)
    (q : ∀ H x H1 y H2 (Q : VK), Same H H1 → Same H1 H2 → ra H x H1 → rb H1 y H2 → (∀ H', Same H H' → Q (.bl k) H') → r x y H2 Q) : Pt X (.Compare a [op] [b] pos) ρ k :=
  Pt.of (pt_cmpR ho pe_g pe_g hm) fun σ H C B st => g_use ha st fun x H1 s1 q1 => g_use hb (st.mono s1) fun y H2 s2 q2 => q H x H1 y H2 _ s1 s2 q1 q2 fun H' s' => ⟨k, rfl, s', rfl⟩
theorem c_I0 {i j : Int} {g : Int → Int → Bool} {H H1 H2 : Hp} {x y : V} {Q : VK} (s1 : Same H H1) (s2 : Same H1 H2) (q1 : ArgOk X.K H1 x (.t (.int i))) (q2 : ArgOk X.K H2 y (.t (.int j))) (q : ∀ H', Same H H' → Q (.bl (g i j)) H') :
    rI0 (fun i j => .bl (g i j)) x y H2 Q := ⟨i, j, Im.int_eq q1, Im.int_eq q2, q H2 (s1.trans s2)⟩
section
variable {i j : Int}
theorem y_lt (ha : Py X a ρ (.int i)) (hb : Py X b ρ (.int j)) : Py X (.Compare a [.Lt] [b] pos) ρ (.bl (decide (i < j))) := y_cmp op_lt ha hb (nomark _) fun H x H1 y H2 Q s1 s2 q1 q2 q => c_I0 s1 s2 q1 q2 q
theorem y_le (ha : Py X a ρ (.int i)) (hb : Py X b ρ (.int j)) : Py X (.Compare a [.LtE] [b] pos) ρ (.bl (decide (i ≤ j))) := y_cmp op_le ha hb (nomark _) fun H x H1 y H2 Q s1 s2 q1 q2 q => c_I0 s1 s2 q1 q2 q
theorem y_gt (ha : Py X a ρ (.int i)) (hb : Py X b ρ (.int j)) : Py X (.Compare a [.Gt] [b] pos) ρ (.bl (decide (j < i))) := y_cmp op_gt ha hb (nomark _) fun H x H1 y H2 Q s1 s2 q1 q2 q => c_I0 (g := fun i j => decide (j < i)) s1 s2 q1 q2 q
theorem y_ge (ha : Py X a ρ (.int i)) (hb : Py X b ρ (.int j)) : Py X (.Compare a [.GtE] [b] pos) ρ (.bl (decide (j ≤ i))) := y_cmp op_ge ha hb (nomark _) fun H x H1 y H2 Q s1 s2 q1 q2 q => c_I0 (g := fun i j => decide (j ≤ i)) s1 s2 q1 q2 q
theorem t_lt (ha : Py X a ρ (.int i)) (hb : Py X b ρ (.int j)) : Pt X (.Compare a [.Lt] [b] pos) ρ (decide (i < j)) := t_cmp op_lt ha hb (nomark _) fun H x H1 y H2 Q s1 s2 q1 q2 q => c_I0 s1 s2 q1 q2 q
theorem t_le (ha : Py X a ρ (.int i)) (hb : Py X b ρ (.int j)) : Pt X (.Compare a [.LtE] [b] pos) ρ (decide (i ≤ j)) := t_cmp op_le ha hb (nomark _) fun H x H1 y H2 Q s1 s2 q1 q2 q => c_I0 s1 s2 q1 q2 q
theorem t_gt (ha : Py X a ρ (.int i)) (hb : Py X b ρ (.int j)) : Pt X (.Compare a [.Gt] [b] pos) ρ (decide (j < i)) := t_cmp op_gt ha hb (nomark _) fun H x H1 y H2 Q s1 s2 q1 q2 q => c_I0 (g := fun i j => decide (j < i)) s1 s2 q1 q2 q
theorem t_ge (ha : Py X a ρ (.int i)) (hb : Py X b ρ (.int j)) : Pt X (.Compare a [.GtE] [b] pos) ρ (decide (j ≤ i)) := t_cmp op_ge ha hb (nomark _) fun H x H1 y H2 Q s1 s2 q1 q2 q => c_I0 (g := fun i j => decide (j ≤ i)) s1 s2 q1 q2 q
end
/-- flat data and their value -/
def T.flat : T → Bool
  | .tup _ => false
  | .tuf _ => false
  | .lst _ => false
  | _ => true
def T.v : T → V
  | .non => .non
  | .bl b => .bl b
  | .int i => .int i
  | .str x => .str x
  | .tup _ => .non
  | .tuf _ => .non
  | .lst _ => .non
theorem Im.v_eq {K : PySem.W.Frag} {H : Hp} {v : V} {t : T} (h : Im K H v t) (f : t.flat = true) : v = t.v := by
  cases h with
  | tup => exact absurd f Bool.false_ne_true
  | tuf => exact absurd f Bool.false_ne_true
  | lst => exact absurd f Bool.false_ne_true
  | _ => rfl
theorem ImAll.v_eq {K : PySem.W.Frag} {H : Hp} : ∀ {vs : List V} {ts : List T}, ImAll K H vs ts → ts.all T.flat = true → vs = ts.map T.v
  | _, [], h, _ => by cases h; rfl
  | _, t :: ts, h, f => by
    cases h with
    | cons h1 h2 =>
      rw [List.all_cons, Bool.and_eq_true] at f
      rw [h1.v_eq f.1, ImAll.v_eq h2 f.2]
      rfl
theorem T.flat_v : ∀ {t : T}, t.flat = true → flatV t.v = true
  | .non, _ => rfl
  | .bl _, _ => rfl
  | .int _, _ => rfl
  | .str _, _ => rfl
theorem T.flat_vs : ∀ {ts : List T}, ts.all T.flat = true → (ts.map T.v).all flatV = true
  | [], _ => rfl
  | t :: ts, f => by
    rw [List.all_cons, Bool.and_eq_true] at f
    rw [List.map_cons, List.all_cons, Bool.and_eq_true]
    exact ⟨T.flat_v f.1, T.flat_vs f.2⟩
/-- == of scalars -/
theorem y_eq {t u : T} (ha : Py X a ρ t) (hb : Py X b ρ u) (f : t.flat = true := by rfl) (g : u.flat = true := by rfl) (hs : scal t.v u.v = true := by rfl) : Py X (.Compare a [.Eq] [b] pos) ρ (.bl (decide (t.v = u.v))) :=
  y_cmp op_eq ha hb (nomark _) fun H x H1 y H2 Q s1 s2 q1 q2 q => by
    rw [Im.v_eq q1 f, Im.v_eq q2 g]
    exact ⟨hs, q H2 (s1.trans s2)⟩
theorem t_eq {t u : T} (ha : Py X a ρ t) (hb : Py X b ρ u) (f : t.flat = true := by rfl) (g : u.flat = true := by rfl) (hs : scal t.v u.v = true := by rfl) : Pt X (.Compare a [.Eq] [b] pos) ρ (decide (t.v = u.v)) :=
  t_cmp op_eq ha hb (nomark _) fun H x H1 y H2 Q s1 s2 q1 q2 q => by
    rw [Im.v_eq q1 f, Im.v_eq q2 g]
    exact ⟨hs, q H2 (s1.trans s2)⟩
theorem y_ne {t u : T} (ha : Py X a ρ t) (hb : Py X b ρ u) (f : t.flat = true := by rfl) (g : u.flat = true := by rfl) (hs : scal t.v u.v = true := by rfl) : Py X (.Compare a [.NotEq] [b] pos) ρ (.bl (!decide (t.v = u.v))) :=
  y_cmp op_ne ha hb (nomark _) fun H x H1 y H2 Q s1 s2 q1 q2 q => by
    rw [Im.v_eq q1 f, Im.v_eq q2 g]
    exact ⟨hs, q H2 (s1.trans s2)⟩
theorem t_ne {t u : T} (ha : Py X a ρ t) (hb : Py X b ρ u) (f : t.flat = true := by rfl) (g : u.flat = true := by rfl) (hs : scal t.v u.v = true := by rfl) : Pt X (.Compare a [.NotEq] [b] pos) ρ (!decide (t.v = u.v)) :=
  t_cmp op_ne ha hb (nomark _) fun H x H1 y H2 Q s1 s2 q1 q2 q => by
    rw [Im.v_eq q1 f, Im.v_eq q2 g]
    exact ⟨hs, q H2 (s1.trans s2)⟩
theorem y_isN {t : T} (ha : Py X a ρ t) {k : Bool} (hk : ∀ K H v, Im K H v t → decide (v = .non) = k) {j pos'} : Py X (.Compare a [.Is] [.Constant .none j pos'] pos) ρ (.bl k) :=
  y_cmp op_isN ha y_non (nomark _) fun H x H1 y H2 Q s1 s2 q1 q2 q => ⟨Im.non_eq q2, by rw [hk _ _ _ q1]; exact q H2 (s1.trans s2)⟩
theorem t_isN {t : T} (ha : Py X a ρ t) {k : Bool} (hk : ∀ K H v, Im K H v t → decide (v = .non) = k) {j pos'} : Pt X (.Compare a [.Is] [.Constant .none j pos'] pos) ρ k :=
  t_cmp op_isN ha y_non (nomark _) fun H x H1 y H2 Q s1 s2 q1 q2 q => ⟨Im.non_eq q2, by rw [hk _ _ _ q1]; exact q H2 (s1.trans s2)⟩
/-- x in a tuple, a list of flat things -/
theorem rin_tup {K : PySem.W.Frag} {neg : Bool} {H : Hp} {x y : V} {t : T} {ts : List T} {Q : VK} (q1 : Im K H x t) (q2 : Im K H y (.tup ts)) (f : t.flat = true) (g : ts.all T.flat = true) (q : Q (.bl (if neg then !inV t.v (ts.map T.v) else inV t.v (ts.map T.v))) H) : rIn K neg x y H Q := by
  obtain ⟨p, xs, e, hs, ha⟩ := q2.tup_eq
  rw [q1.v_eq f]
  have e2 := ha.v_eq g
  subst e2
  exact ⟨p, _, e, .inr hs, T.flat_v f, T.flat_vs g, q⟩
theorem rin_lst {K : PySem.W.Frag} {neg : Bool} {H : Hp} {x y : V} {t : T} {ts : List T} {Q : VK} (q1 : Im K H x t) (q2 : ArgOk K H y (.s ts)) (f : t.flat = true) (g : ts.all T.flat = true) (q : Q (.bl (if neg then !inV t.v (ts.map T.v) else inV t.v (ts.map T.v))) H) : rIn K neg x y H Q := by
  obtain ⟨p, xs, e, hs, ha⟩ := q2
  rw [q1.v_eq f]
  have e2 := ha.v_eq g
  subst e2
  exact ⟨p, _, e, .inl hs, T.flat_v f, T.flat_vs g, q⟩
section
variable {t : T} {ts : List T}
theorem y_in (ha : Py X a ρ t) (hb : Py X b ρ (.tup ts)) (f : t.flat = true) (g : ts.all T.flat = true) (hm : behindInMarks .In b = false := by rfl) : Py X (.Compare a [.In] [b] pos) ρ (.bl (inV t.v (ts.map T.v))) :=
  y_cmp op_in_seq ha hb hm fun H x H1 y H2 Q s1 s2 q1 q2 q => rin_tup (Im.mono s2 q1) q2 f g (q H2 (s1.trans s2))
theorem t_in (ha : Py X a ρ t) (hb : Py X b ρ (.tup ts)) (f : t.flat = true) (g : ts.all T.flat = true) (hm : behindInMarks .In b = false := by rfl) : Pt X (.Compare a [.In] [b] pos) ρ (inV t.v (ts.map T.v)) :=
  t_cmp op_in_seq ha hb hm fun H x H1 y H2 Q s1 s2 q1 q2 q => rin_tup (Im.mono s2 q1) q2 f g (q H2 (s1.trans s2))
theorem y_inL (ha : Py X a ρ t) (hb : PyS X b ρ ts) (f : t.flat = true) (g : ts.all T.flat = true) (hm : behindInMarks .In b = false := by rfl) : Py X (.Compare a [.In] [b] pos) ρ (.bl (inV t.v (ts.map T.v))) :=
  y_cmp op_in_seq ha hb hm fun H x H1 y H2 Q s1 s2 q1 q2 q => rin_lst (Im.mono s2 q1) q2 f g (q H2 (s1.trans s2))
theorem t_inL (ha : Py X a ρ t) (hb : PyS X b ρ ts) (f : t.flat = true) (g : ts.all T.flat = true) (hm : behindInMarks .In b = false := by rfl) : Pt X (.Compare a [.In] [b] pos) ρ (inV t.v (ts.map T.v)) :=
  t_cmp op_in_seq ha hb hm fun H x H1 y H2 Q s1 s2 q1 q2 q => rin_lst (Im.mono s2 q1) q2 f g (q H2 (s1.trans s2))
theorem t_ni (ha : Py X a ρ t) (hb : Py X b ρ (.tup ts)) (f : t.flat = true) (g : ts.all T.flat = true) (hm : behindInMarks .NotIn b = false := by rfl) : Pt X (.Compare a [.NotIn] [b] pos) ρ (!inV t.v (ts.map T.v)) :=
  t_cmp op_notIn_seq ha hb hm fun H x H1 y H2 Q s1 s2 q1 q2 q => rin_tup (Im.mono s2 q1) q2 f g (q H2 (s1.trans s2))
theorem t_niL (ha : Py X a ρ t) (hb : PyS X b ρ ts) (f : t.flat = true) (g : ts.all T.flat = true) (hm : behindInMarks .NotIn b = false := by rfl) : Pt X (.Compare a [.NotIn] [b] pos) ρ (!inV t.v (ts.map T.v)) :=
  t_cmp op_notIn_seq ha hb hm fun H x H1 y H2 Q s1 s2 q1 q2 q => rin_lst (Im.mono s2 q1) q2 f g (q H2 (s1.trans s2))
end
/-- a op1 b op2 c of ints -/
theorem t_chain {op op' : CmpOp} {g g' : Int → Int → Bool} {i j l : Int} (ho : OpR X (compareOp op) (rI0 fun i j => .bl (g i j))) (ho' : OpR X (compareOp op') (rI0 fun i j => .bl (g' i j))) (ha : Py X a ρ (.int i)) (hb : Py X b ρ (.int j)) (hc : Py X c ρ (.int l))
    (hm : lastMarks [op, op'] [b, c] = false := by with_unfolding_all rfl) : Pt X (.Compare a [op, op'] [b, c] pos) ρ (g i j && g' j l) :=
  Pt.of (pt_chain ho ho' pe_g pe_g pe_g hm) fun σ H C B st => g_use ha st fun x H1 s1 q1 => g_use hb (st.mono s1) fun y H2 s2 q2 => ⟨i, j, Im.int_eq q1, Im.int_eq q2, g i j, rfl, by
    cases hg : g i j with
    | false => exact iteF ⟨false, rfl, s1.trans s2, rfl⟩
    | true => exact iteT (g_use hc (st.mono (s1.trans s2)) fun z H3 s3 q3 => ⟨j, l, Im.int_eq q2, Im.int_eq q3, g' j l, rfl, (s1.trans s2).trans s3, rfl⟩)⟩

/-! ### tests -/
theorem t_val {k : Bool} (h : Py X e ρ (.bl k)) (he : ∀ whole, isTrue e X.env whole = (do let v ← whole; standAt e.pos; holding [v] (truthy v)) := by intro _; rfl) : Pt X e ρ k :=
  Pt.of (pt_val pe_g he) fun σ H C B st => g_use h st fun x H1 s1 q1 => ⟨k, Im.bl_eq q1, s1, rfl⟩
theorem t_not {k : Bool} (h : Pt X e ρ k) : Pt X (.UnaryOp .Not e pos) ρ (!k) :=
  Pt.of (pt_not pt_g) fun σ H C B st => gt_use h st fun H1 s1 => ⟨s1, rfl⟩
theorem t_and {k l : Bool} (h : Pt X a ρ k) (h2 : k = true → Pt X b ρ l) : Pt X (.BoolOp .And [a, b] pos) ρ (k && l) :=
  Pt.of (PW.pt (pw_and pt_g (pw_and1 pt_g))) fun σ H C B st => gt_use h st fun H1 s1 => by
    cases k with
    | true => exact iteT (gt_use (h2 rfl) (st.mono s1) fun H2 s2 => ⟨s1.trans s2, rfl⟩)
    | false => exact iteF ⟨s1, rfl⟩
theorem t_or {k l : Bool} (h : Pt X a ρ k) (h2 : k = false → Pt X b ρ l) : Pt X (.BoolOp .Or [a, b] pos) ρ (k || l) :=
  Pt.of (PW.pt (pw_or pt_g (pw_or1 pt_g))) fun σ H C B st => gt_use h st fun H1 s1 => by
    cases k with
    | false => exact iteF (gt_use (h2 rfl) (st.mono s1) fun H2 s2 => ⟨s1.trans s2, rfl⟩)
    | true => exact iteT ⟨s1, rfl⟩
theorem y_and {k : Bool} {t : T} (h : Py X a ρ (.bl k)) (h2 : k = true → Py X b ρ t) (h3 : k = false → t = .bl false) : Py X (.BoolOp .And [a, b] pos) ρ t :=
  PyG.of (pe_and pe_g (pe_one pe_g)) fun σ H C B st => g_use h st fun x H1 s1 q1 => ⟨k, Im.bl_eq q1, by
    cases k with
    | true => exact iteT (g_use (h2 rfl) (st.mono s1) fun y H2 s2 q2 => ⟨s1.trans s2, q2⟩)
    | false => rw [h3 rfl]; exact iteF ⟨s1, .bl _⟩⟩
theorem y_and3 {k l m : Bool} (h : Py X a ρ (.bl k)) (h2 : k = true → Py X b ρ (.bl l)) (h3 : k = true → l = true → Py X c ρ (.bl m)) : Py X (.BoolOp .And [a, b, c] pos) ρ (.bl (k && (l && m))) :=
  PyG.of (pe_and (pos := pos) pe_g (pe_and (pos := pos) pe_g (pe_one (pos := pos) pe_g))) fun σ H C B st => g_use h st fun x H1 s1 q1 => ⟨k, Im.bl_eq q1, by
    cases k with
    | true => exact iteT (g_use (h2 rfl) (st.mono s1) fun y H2 s2 q2 => ⟨l, Im.bl_eq q2, by
        cases l with
        | true => exact iteT (g_use (h3 rfl rfl) (st.mono (s1.trans s2)) fun z H3 s3 q3 => ⟨(s1.trans s2).trans s3, q3⟩)
        | false => exact iteF ⟨s1.trans s2, .bl _⟩⟩)
    | false => exact iteF ⟨s1, .bl _⟩⟩
theorem y_not {k : Bool} (h : Py X a ρ (.bl k)) : Py X (.UnaryOp .Not a pos) ρ (.bl (!k)) :=
  PyG.of (pe_not pe_g) fun σ H C B st => g_use h st fun x H1 s1 q1 => ⟨k, Im.bl_eq q1, s1, .bl _⟩
/-- a if c else b -/
theorem y_ifG {k : Bool} {R : Hp → V → Hp → Prop} (hR : ∀ H H1 v H2, Same H H1 → Same H1 H2 → R H1 v H2 → R H v H2) (h : Pt X c ρ k) (h1 : k = true → PyG X a ρ R) (h2 : k = false → PyG X b ρ R) : PyG X (.IfExp c a b pos) ρ R :=
  PyG.of (pe_ifExp pt_g pe_g pe_g) fun σ H C B st => gt_use h st fun H1 s1 => by
    cases k with
    | true => exact iteT (g_use (h1 rfl) (st.mono s1) fun y H2 s2 q2 => ⟨s1.trans s2, hR _ _ _ _ s1 s2 q2⟩)
    | false => exact iteF (g_use (h2 rfl) (st.mono s1) fun y H2 s2 q2 => ⟨s1.trans s2, hR _ _ _ _ s1 s2 q2⟩)
theorem y_if {k : Bool} {t : T} (h : Pt X c ρ k) (h1 : k = true → Py X a ρ t) (h2 : k = false → Py X b ρ t) : Py X (.IfExp c a b pos) ρ t :=
  y_ifG (fun _ _ _ _ _ _ q => q) h h1 h2
theorem y_ifL {k : Bool} {x : A4} (h : Pt X c ρ k) (h1 : k = true → PyN X a ρ x) (h2 : k = false → PyN X b ρ x) : PyN X (.IfExp c a b pos) ρ x :=
  y_ifG (fun _ _ _ _ s _ q => q.down s) h h1 h2
/-! ### argument lists, displays -/
theorem a_nil : PaA X [] ρ [] := PaA.of pa_nil fun σ H C B st => ⟨Same.refl H, trivial⟩
theorem a_cons {x : A4} {as : List A4} (h : PyA X e ρ x) (hr : PaA X es ρ as) (hs : starEach (e :: es) X.env = (false, eval e X.env) :: starEach es X.env := by rfl) : PaA X (e :: es) ρ (x :: as) :=
  PaA.of (pa_cons pe_g pa_g hs) fun σ H C B st => g_use h st fun v H1 s1 q1 => ga_use hr (st.mono s1) fun vs H2 s2 q2 => ⟨s1.trans s2, q1.mono s2, q2⟩
theorem args_app {K : PySem.W.Frag} {H : Hp} {ts us : List T} : ∀ {xs ys : List V}, ImAll K H xs ts → ImAll K H ys us → ArgsOk K H (xs ++ ys) ((ts ++ us).map A4.t) := fun {xs ys} h1 h2 => by
  have key : ∀ {vs : List V} {ts : List T}, ImAll K H vs ts → ArgsOk K H vs (ts.map A4.t) := by
    intro vs
    induction vs with
    | nil => intro ts h; cases h; trivial
    | cons v vs ih => intro ts h; cases h with | cons a b => exact ⟨a, ih b⟩
  exact key (h1.append h2)
/-- *e, e a tuple -/
theorem a_star {ts us : List T} {p : Pos} (h : Py X e ρ (.tup ts)) (hr : Pa X es ρ us) (hs : starEach (.Starred e p :: es) X.env = (true, eval e X.env) :: starEach es X.env := by rfl) : Pa X (.Starred e p :: es) ρ (ts ++ us) :=
  PaA.of (StX.pa_star pe_g pa_g hs) fun σ H C B st => g_use h st fun v H1 s1 q1 => by
    obtain ⟨a, xs, e1, hq, ha⟩ := Im.tup_eq q1
    exact ⟨a, xs, e1, .inl hq, ga_use hr (st.mono s1) fun vs H2 s2 q2 => ⟨s1.trans s2, args_app (ha.mono s2) (ArgsOk.all q2)⟩⟩
theorem y_tup {ts : List T} {k : Nat} (h : Pa X es ρ ts) (hl : ts.length ≤ 1000 := by exact Nat.le_of_ble_eq_true rfl) : Py X (.Tuple es k pos) ρ (.tup ts) :=
  PyG.of (pe_tup pa_g) fun σ H C B st => ga_use h st fun vs H1 s1 q1 => ⟨by rw [q1.length, List.length_map]; exact Nat.le_of_lt (small1000 hl), fun p np => ⟨s1.trans (same_new np), .tup (SqT.of upd_same) ((ArgsOk.all q1).mono (same_new np))⟩⟩
theorem y_lst {ts : List T} (h : Pa X es ρ ts) (hl : ts.length ≤ 1000 := by exact Nat.le_of_ble_eq_true rfl) : PyL X (.List es pos) ρ ts :=
  PyG.of (pe_lst pa_g) fun σ H C B st => ga_use h st fun vs H1 s1 q1 => ⟨by rw [q1.length, List.length_map]; exact Nat.le_of_lt (small1000 hl), fun p np => ⟨s1.trans (same_new np), p, vs, rfl, s1.free np, upd_same, (ArgsOk.all q1).mono (same_new np)⟩⟩

/-! ### subscripts -/
theorem y_ix {ts : List T} {i : Int} {t : T} (ha : Py X a ρ (.tup ts)) (hb : Py X b ρ (.int i)) (hi : atI ts i = some t) (hs : PlainIx b := by intro _ _; rfl) : Py X (.Subscript a b pos) ρ t :=
  PyG.of (pe_ix ix_tup pe_g pe_g hs) fun σ H C B st => g_use ha st fun x H1 s1 q1 => g_use hb (st.mono s1) fun y H2 s2 q2 => by
    obtain ⟨p, xs, e1, hq, hm⟩ := Im.tup_eq q1
    have hm2 := hm.mono s2
    have hl := hm.length
    unfold atI at hi
    rw [← hl] at hi
    cases hx : ixN xs.length i with
    | none => rw [hx] at hi; cases hi
    | some j =>
      rw [hx] at hi
      obtain ⟨v, hv, r⟩ := hm2.get (show ts[j]? = some t from hi)
      exact ⟨p, xs, i, v, e1, Im.int_eq q2, same_t s2 hq, by unfold atI; rw [hx]; exact hv, s1.trans s2, r⟩
theorem y_ixL {ts : List T} {i : Int} {t : T} (ha : PyS X a ρ ts) (hb : Py X b ρ (.int i)) (hi : atI ts i = some t) (hs : PlainIx b := by intro _ _; rfl) : Py X (.Subscript a b pos) ρ t :=
  PyG.of (pe_ix ix_list pe_g pe_g hs) fun σ H C B st => g_use ha st fun x H1 s1 q1 => g_use hb (st.mono s1) fun y H2 s2 q2 => by
    obtain ⟨p, xs, e1, hq, hm⟩ := q1
    have hm2 := hm.mono s2
    have hl := hm.length
    unfold atI at hi
    rw [← hl] at hi
    cases hx : ixN xs.length i with
    | none => rw [hx] at hi; cases hi
    | some j =>
      rw [hx] at hi
      obtain ⟨v, hv, r⟩ := hm2.get (show ts[j]? = some t from hi)
      exact ⟨p, xs, i, v, e1, Im.int_eq q2, s2.seq hq, by unfold atI; rw [hx]; exact hv, s1.trans s2, r⟩
/-- d[k], k a text -/
theorem y_dget {kvs : List (Str × T)} {k : Str} {t : T} (hu : X.A.units + 1 < cLine) (ha : PyA X a ρ (.d kvs)) (hb : Py X b ρ (.str k)) (hi : dGet kvs k = some t) (hs : NoSl b := by intro _ _; rfl) : Py X (.Subscript a b pos) ρ t :=
  PyG.of (pe_dget hu pe_g pe_g hs) fun σ H C B st => g_use ha st fun x H1 s1 q1 => g_use hb (st.mono s1) fun y H2 s2 q2 => by
    obtain ⟨p, ks, e1, hq, hm⟩ := q1
    obtain ⟨v, hv, r⟩ := (hm.tk (tk_same s2)).get hi
    refine ⟨p, v, e1, ?_, s1.trans s2, r⟩
    rw [Im.str_eq q2]
    have := DGet.k (k := (.inr k : Key)) (s2 _ _ hq)
    rw [hv] at this
    exact this
end
end Nine
set_option maxHeartbeats 4000000
/-! K9C: calls, built-ins, slices, targets, walks, comprehensions. -/
namespace Nine
open PySem PySem.Spec PyProof.Rows L2

/-! ### a def's promise: new data of its arguments -/
def spG (K : PySem.W.Frag) (n : Nat) (R : List A4 → A4 → Prop) : Sp := fun vs H Q _ => ∃ as r, as.length = n ∧ ArgsOk K H vs as ∧ R as r ∧ ∀ v H', Same H H' → NewOk K H H' v r → Q v H'
/-- a def of the top: the name by which it is called, its own name, its statement, its parameters -/
structure Fn9 (K : PySem.W.Frag) (mg : Str → Option Value) (x nm : Str) (st : Stmt) (ps : List Str) where
  a : Addr
  d : FuncData
  F : Fun K nm nm st a d
  b : Binds K d ps []
  g : mg x = some (.ref a)
abbrev Ok9 {K : PySem.W.Frag} {mg : Str → Option Value} {x nm : Str} {st : Stmt} {ps : List Str} (P : Program) (w : World) (base : Heap) (k : Nat) (f : Fn9 K mg x nm st ps) (R : List A4 → A4 → Prop) : Prop :=
  FnOk P w K mg base CX0 k f.a f.d ps (spG K ps.length R)
section
variable {X : Cx} {e a b c : Expr} {es : List Expr} {ρ : List Sl} {pos p : Pos}
theorem y_call {x nm : Str} {st : Stmt} {ps : List Str} {k : Nat} {R : List A4 → A4 → Prop} {as : List A4} {r : A4} {f : Fn9 X.K X.mg x nm st ps} (G : Ok9 X.prog X.w X.base k f R) (hr : Room k X.A) (ha : PaA X (e :: es) ρ as) (hR : R as r) (hl : as.length = ps.length := by rfl)
    (hg : Gl X x := by rfl) (hdb : (x == ("__debug__" : Str)) = false := by decide) (he : starEach (e :: es) X.env = (false, eval e X.env) :: starEach es X.env := by rfl) (hpl : (backTo pos (starEach es X.env)).any (·.1) = false := by rfl) :
    PyN X (.Call (.Name x p) (e :: es) [] pos) ρ r :=
  PyG.of (pe_call G hr hg f.g f.F.kp f.b .nil pass0 pa_g hdb he hpl) fun σ H C B st => ga_use ha st fun vs H1 s1 q1 => by
    refine ⟨as, r, hl, ?_, hR, fun v H' s2 q2 => ⟨s1.trans s2, q2.down s1⟩⟩
    rw [List.append_nil]
    exact q1
/-- handing back plain data -/
theorem y_callT {x nm : Str} {st : Stmt} {ps : List Str} {k : Nat} {R : List A4 → A4 → Prop} {as : List A4} {t : T} {f : Fn9 X.K X.mg x nm st ps} (G : Ok9 X.prog X.w X.base k f R) (hr : Room k X.A) (ha : PaA X (e :: es) ρ as) (hR : R as (.t t)) (hl : as.length = ps.length := by rfl)
    (hg : Gl X x := by rfl) (hdb : (x == ("__debug__" : Str)) = false := by decide) (he : starEach (e :: es) X.env = (false, eval e X.env) :: starEach es X.env := by rfl) (hpl : (backTo pos (starEach es X.env)).any (·.1) = false := by rfl) :
    Py X (.Call (.Name x p) (e :: es) [] pos) ρ t := y_call G hr ha hR hl hg hdb he hpl
theorem y_call0 {x nm : Str} {st : Stmt} {k : Nat} {R : List A4 → A4 → Prop} {r : A4} {f : Fn9 X.K X.mg x nm st []} (G : Ok9 X.prog X.w X.base k f R) (hr : Room k X.A) (hR : R [] r)
    (hg : Gl X x := by rfl) (hdb : (x == ("__debug__" : Str)) = false := by decide) :
    PyN X (.Call (.Name x p) [] [] pos) ρ r :=
  PyG.of (pe_call0 G hr hg f.g f.F.kp f.b .nil pass0 hdb) fun σ H C B st => ⟨[], r, rfl, trivial, hR, fun v H' s2 q2 => ⟨s2, q2⟩⟩

/-! ### built-ins -/
theorem y_bi {x : Str} {id : String} {r : List V → Hp → VK → Prop} {as : List A4} {R : Hp → V → Hp → Prop} (hc : CallR X (.builtin id) r) (hm : X.mg x = none) (hv : bootBuiltins x = some (.builtin id)) (ha : PaA X (e :: es) ρ as)
    (k : ∀ H vs H1 (Q : VK), Same H H1 → ArgsOk X.K H1 vs as → (∀ v H', Same H H' → R H v H' → Q v H') → r vs H1 Q)
    (hg : Gl X x := by rfl) (hn : x ≠ "__name__" := by decide) (hdb : (x == ("__debug__" : Str)) = false := by decide)
    (he : starEach (e :: es) X.env = (false, eval e X.env) :: starEach es X.env := by rfl) (hpl : (backTo pos (starEach es X.env)).any (·.1) = false := by rfl) : PyG X (.Call (.Name x p) (e :: es) [] pos) ρ R :=
  PyG.of (pe_callB hc hg hm hv pa_g hn hdb he hpl) fun σ H C B st => ga_use ha st fun vs H1 s1 q1 => k H vs H1 _ s1 q1 fun v H' s q => ⟨s, q⟩
theorem y_bt {x : Str} {T9 : String} {r : List V → Hp → VK → Prop} {as : List A4} {R : Hp → V → Hp → Prop} (hc : CallR X (.type T9) r) (hm : X.mg x = none) (hv : bootBuiltins x = some (.type T9)) (ha : PaA X (e :: es) ρ as)
    (k : ∀ H vs H1 (Q : VK), Same H H1 → ArgsOk X.K H1 vs as → (∀ v H', Same H H' → R H v H' → Q v H') → r vs H1 Q)
    (hg : Gl X x := by rfl) (hn : x ≠ "__name__" := by decide) (hdb : (x == ("__debug__" : Str)) = false := by decide)
    (he : starEach (e :: es) X.env = (false, eval e X.env) :: starEach es X.env := by rfl) (hpl : (backTo pos (starEach es X.env)).any (·.1) = false := by rfl) : PyG X (.Call (.Name x p) (e :: es) [] pos) ρ R :=
  PyG.of (pe_callTy hc hg hm hv pa_g hn hdb he hpl) fun σ H C B st => ga_use ha st fun vs H1 s1 q1 => k H vs H1 _ s1 q1 fun v H' s q => ⟨s, q⟩
theorem args1 {K : PySem.W.Frag} {H : Hp} {vs : List V} {x : A4} (h : ArgsOk K H vs [x]) : ∃ v, vs = [v] ∧ ArgOk K H v x := by
  match vs, h with
  | [v], ⟨h1, _⟩ => exact ⟨v, rfl, h1⟩
theorem args2 {K : PySem.W.Frag} {H : Hp} {vs : List V} {x y : A4} (h : ArgsOk K H vs [x, y]) : ∃ v w, vs = [v, w] ∧ ArgOk K H v x ∧ ArgOk K H w y := by
  match vs, h with
  | [v, w], ⟨h1, h2, _⟩ => exact ⟨v, w, rfl, h1, h2⟩
theorem args3 {K : PySem.W.Frag} {H : Hp} {vs : List V} {x y z : A4} (h : ArgsOk K H vs [x, y, z]) : ∃ u v w, vs = [u, v, w] ∧ ArgOk K H u x ∧ ArgOk K H v y ∧ ArgOk K H w z := by
  match vs, h with
  | [u, v, w], ⟨h1, h2, h3, _⟩ => exact ⟨u, v, w, rfl, h1, h2, h3⟩
theorem a1 {x : A4} (h : PyA X e ρ x) (hs : starEach [e] X.env = (false, eval e X.env) :: starEach [] X.env := by rfl) : PaA X [e] ρ [x] := a_cons h a_nil hs
theorem y_len {ts : List T} (h : Py X e ρ (.tup ts)) (hm : X.mg "len" = none) (hg : Gl X "len" := by rfl) (he : starEach [e] X.env = (false, eval e X.env) :: starEach [] X.env := by rfl) (hpl : (backTo pos (starEach [] X.env)).any (·.1) = false := by rfl) :
    Py X (.Call (.Name "len" p) [e] [] pos) ρ (.int ts.length) :=
  y_bi call_len_seq hm PySem.boot_len (a1 h he) (fun H vs H1 Q s1 q1 q => by
    obtain ⟨v, rfl, h1⟩ := args1 q1
    obtain ⟨a, xs, rfl, hs, hm⟩ := Im.tup_eq h1
    refine ⟨a, xs, rfl, .inr hs, q _ _ s1 ?_⟩
    rw [hm.length]
    exact .int _) hg (by decide) (by decide) he hpl
theorem y_lenL {ts : List T} (h : PyS X e ρ ts) (hm : X.mg "len" = none) (hg : Gl X "len" := by rfl) (he : starEach [e] X.env = (false, eval e X.env) :: starEach [] X.env := by rfl) (hpl : (backTo pos (starEach [] X.env)).any (·.1) = false := by rfl) :
    Py X (.Call (.Name "len" p) [e] [] pos) ρ (.int ts.length) :=
  y_bi call_len_seq hm PySem.boot_len (a1 h he) (fun H vs H1 Q s1 q1 q => by
    obtain ⟨v, rfl, a, xs, rfl, hs, hm⟩ := args1 q1
    refine ⟨a, xs, rfl, .inl hs, q _ _ s1 ?_⟩
    rw [hm.length]
    exact .int _) hg (by decide) (by decide) he hpl
theorem y_abs {i : Int} (h : Py X e ρ (.int i)) (hm : X.mg "abs" = none) (hg : Gl X "abs" := by rfl) (he : starEach [e] X.env = (false, eval e X.env) :: starEach [] X.env := by rfl) : Py X (.Call (.Name "abs" p) [e] [] pos) ρ (.int (if i < 0 then -i else i)) :=
  y_bi call_abs hm (by decide +kernel) (a1 h he) (fun H vs H1 Q s1 q1 q => by
    obtain ⟨v, rfl, h1⟩ := args1 q1
    rw [Im.int_eq h1]
    exact ⟨i, rfl, q _ _ s1 (.int _)⟩) hg (by decide) (by decide) he
theorem y_intI {i : Int} (h : Py X e ρ (.int i)) (hm : X.mg "int" = none) (hg : Gl X "int" := by rfl) (he : starEach [e] X.env = (false, eval e X.env) :: starEach [] X.env := by rfl) : Py X (.Call (.Name "int" p) [e] [] pos) ρ (.int i) :=
  y_bt call_int1 hm (by decide +kernel) (a1 h he) (fun H vs H1 Q s1 q1 q => by
    obtain ⟨v, rfl, h1⟩ := args1 q1
    rw [Im.int_eq h1]
    exact .inl ⟨i, rfl, q _ _ s1 (.int _)⟩) hg (by decide) (by decide) he
theorem y_intB {i : Bool} (h : Py X e ρ (.bl i)) (hm : X.mg "int" = none) (hg : Gl X "int" := by rfl) (he : starEach [e] X.env = (false, eval e X.env) :: starEach [] X.env := by rfl) : Py X (.Call (.Name "int" p) [e] [] pos) ρ (.int (if i then 1 else 0)) :=
  y_bt call_int1 hm (by decide +kernel) (a1 h he) (fun H vs H1 Q s1 q1 q => by
    obtain ⟨v, rfl, h1⟩ := args1 q1
    rw [Im.bl_eq h1]
    exact .inr ⟨i, rfl, q _ _ s1 (.int _)⟩) hg (by decide) (by decide) he
/-- tuple(list), list(list), list(tuple) -/
theorem y_tupleL {ts : List T} (h : PyS X e ρ ts) (hm : X.mg "tuple" = none) (hg : Gl X "tuple" := by rfl) (he : starEach [e] X.env = (false, eval e X.env) :: starEach [] X.env := by rfl) (hpl : (backTo pos (starEach [] X.env)).any (·.1) = false := by rfl) :
    Py X (.Call (.Name "tuple" p) [e] [] pos) ρ (.tup ts) :=
  y_bt call_tuple_of hm (by decide +kernel) (a1 h he) (fun H vs H1 Q s1 q1 q => by
    obtain ⟨v, rfl, a, xs, rfl, hs, hm⟩ := args1 q1
    exact ⟨a, xs, rfl, .inl ⟨hs, fun l hl => q _ _ (s1.trans (same_new hl)) (.tup (SqT.of upd_same) (hm.mono (same_new hl)))⟩⟩) hg (by decide) (by decide) he hpl
theorem y_tupleT {ts : List T} (h : Py X e ρ (.tup ts)) (hm : X.mg "tuple" = none) (hg : Gl X "tuple" := by rfl) (he : starEach [e] X.env = (false, eval e X.env) :: starEach [] X.env := by rfl) : Py X (.Call (.Name "tuple" p) [e] [] pos) ρ (.tup ts) :=
  y_bt call_tuple_of hm (by decide +kernel) (a1 h he) (fun H vs H1 Q s1 q1 q => by
    obtain ⟨v, rfl, h1⟩ := args1 q1
    obtain ⟨a, xs, rfl, hs, hm⟩ := Im.tup_eq h1
    exact ⟨a, xs, rfl, .inr ⟨hs, q _ _ s1 (.tup hs hm)⟩⟩) hg (by decide) (by decide) he
theorem y_listL {ts : List T} (h : PyS X e ρ ts) (hm : X.mg "list" = none) (hg : Gl X "list" := by rfl) (he : starEach [e] X.env = (false, eval e X.env) :: starEach [] X.env := by rfl) : PyL X (.Call (.Name "list" p) [e] [] pos) ρ ts :=
  y_bt call_list_of hm (by decide +kernel) (a1 h he) (fun H vs H1 Q s1 q1 q => by
    obtain ⟨v, rfl, a, xs, rfl, hs, hm⟩ := args1 q1
    exact ⟨a, xs, rfl, .inl hs, fun l hl => q _ _ (s1.trans (same_new hl)) ⟨l, xs, rfl, s1.free hl, upd_same, hm.mono (same_new hl)⟩⟩) hg (by decide) (by decide) he
theorem y_listT {ts : List T} (h : Py X e ρ (.tup ts)) (hm : X.mg "list" = none) (hg : Gl X "list" := by rfl) (he : starEach [e] X.env = (false, eval e X.env) :: starEach [] X.env := by rfl) : PyL X (.Call (.Name "list" p) [e] [] pos) ρ ts :=
  y_bt call_list_of hm (by decide +kernel) (a1 h he) (fun H vs H1 Q s1 q1 q => by
    obtain ⟨v, rfl, h1⟩ := args1 q1
    obtain ⟨a, xs, rfl, hs, hm⟩ := Im.tup_eq h1
    exact ⟨a, xs, rfl, .inr hs, fun l hl => q _ _ (s1.trans (same_new hl)) ⟨l, xs, rfl, s1.free hl, upd_same, hm.mono (same_new hl)⟩⟩) hg (by decide) (by decide) he
theorem y_dictD {kvs : List (Str × T)} (h : PyA X e ρ (.d kvs)) (hm : X.mg "dict" = none) (hg : Gl X "dict" := by rfl) (he : starEach [e] X.env = (false, eval e X.env) :: starEach [] X.env := by rfl) : PyN X (.Call (.Name "dict" p) [e] [] pos) ρ (.d kvs) :=
  y_bt call_dictD hm (by decide +kernel) (a1 h he) (fun H vs H1 Q s1 q1 q => by
    obtain ⟨v, rfl, a, ks, rfl, hs, hm⟩ := args1 q1
    exact ⟨a, ks, rfl, .inl hs, fun l hl => q _ _ (s1.trans (same_new hl)) ⟨l, ks, rfl, s1.free hl, upd_same, hm.tk (tk_same (same_new hl))⟩⟩) hg (by decide) (by decide) he
/-- max, min, any, all of lists -/
theorem y_maxL {ns : List Int} {m : Int} (hc : X.calm = true) (h : PyS X e ρ (ns.map T.int)) (hmem : m ∈ ns) (hle : ∀ y ∈ ns, y ≤ m) (hm : X.mg "max" = none) (hg : Gl X "max" := by rfl) (he : starEach [e] X.env = (false, eval e X.env) :: starEach [] X.env := by rfl) : Py X (.Call (.Name "max" p) [e] [] pos) ρ (.int m) :=
  y_bi (cr_max hc) hm (by decide +kernel) (a1 h he) (fun H vs H1 Q s1 q1 q => by
    obtain ⟨v, rfl, a, xs, rfl, hs, hm⟩ := args1 q1
    rw [hm.ints] at hs
    refine ⟨a, ns, rfl, hs, List.length_pos_of_mem hmem, fun m' h1 h2 => ?_⟩
    rw [Int.le_antisymm (hle m' h1) (h2 m hmem)]
    exact q _ _ s1 (.int _)) hg (by decide) (by decide) he
theorem y_minL {ns : List Int} {m : Int} (hc : X.calm = true) (h : PyS X e ρ (ns.map T.int)) (hmem : m ∈ ns) (hle : ∀ y ∈ ns, m ≤ y) (hm : X.mg "min" = none) (hg : Gl X "min" := by rfl) (he : starEach [e] X.env = (false, eval e X.env) :: starEach [] X.env := by rfl) : Py X (.Call (.Name "min" p) [e] [] pos) ρ (.int m) :=
  y_bi (cr_min hc) hm (by decide +kernel) (a1 h he) (fun H vs H1 Q s1 q1 q => by
    obtain ⟨v, rfl, a, xs, rfl, hs, hm⟩ := args1 q1
    rw [hm.ints] at hs
    refine ⟨a, ns, rfl, hs, List.length_pos_of_mem hmem, fun m' h1 h2 => ?_⟩
    rw [Int.le_antisymm (h2 m hmem) (hle m' h1)]
    exact q _ _ s1 (.int _)) hg (by decide) (by decide) he
theorem y_any {bs : List Bool} (hc : X.calm = true) (h : PyS X e ρ (bs.map T.bl)) (hm : X.mg "any" = none) (hg : Gl X "any" := by rfl) (he : starEach [e] X.env = (false, eval e X.env) :: starEach [] X.env := by rfl) (hpl : (backTo pos (starEach [] X.env)).any (·.1) = false := by rfl) :
    Py X (.Call (.Name "any" p) [e] [] pos) ρ (.bl (bs.any id)) :=
  y_bi (cr_any hc) hm (by decide +kernel) (a1 h he) (fun H vs H1 Q s1 q1 q => by
    obtain ⟨v, rfl, a, xs, rfl, hs, hm⟩ := args1 q1
    rw [hm.bls] at hs
    exact ⟨a, bs, rfl, hs, q _ _ s1 (.bl _)⟩) hg (by decide) (by decide) he hpl
theorem y_all {bs : List Bool} (hc : X.calm = true) (h : PyS X e ρ (bs.map T.bl)) (hm : X.mg "all" = none) (hg : Gl X "all" := by rfl) (he : starEach [e] X.env = (false, eval e X.env) :: starEach [] X.env := by rfl) : Py X (.Call (.Name "all" p) [e] [] pos) ρ (.bl (bs.all id)) :=
  y_bi (cr_all hc) hm (by decide +kernel) (a1 h he) (fun H vs H1 Q s1 q1 q => by
    obtain ⟨v, rfl, a, xs, rfl, hs, hm⟩ := args1 q1
    rw [hm.bls] at hs
    exact ⟨a, bs, rfl, hs, q _ _ s1 (.bl _)⟩) hg (by decide) (by decide) he

/-! ### slices, + of tuples and lists -/
inductive PoA (X : Cx) (ρ : List Sl) : Option Expr → Option Int → Prop
  | no : PoA X ρ none none
  | at {e : Expr} {i : Int} : Py X e ρ (.int i) → PoA X ρ (some e) (some i)
def tPo (X : Cx) (o : Option Expr) : TO := match o with
  | none => tNoPart
  | some e => tPart (tG X e)
theorem po_g : ∀ {o : Option Expr}, PO X o (tPo X o)
  | none => po_none
  | some e => po_some pe_g
theorem po_use {o : Option Expr} {i : Option Int} {σ : L2.St} {H C B : Hp} {Q : Option Int → Hp → Prop} (g : PoA X ρ o i) (r : StR X.K C B σ H ρ) (k : ∀ H', Same H H' → Q i H') : tPo X o σ H Q := by
  cases g with
  | no => exact k H (Same.refl H)
  | «at» h => exact g_use h r fun v H' s q => ⟨_, Im.int_eq q, k H' s⟩
def cutT (ts : List T) (lo hi : Option Int) : List T := (ts.drop (HT.sIx ts.length 0 lo)).take (HT.sIx ts.length ts.length hi - HT.sIx ts.length 0 lo)
theorem ImAll.cut {K : PySem.W.Frag} {H : Hp} {xs : List V} {ts : List T} (h : ImAll K H xs ts) (lo hi : Option Int) : ImAll K H (cutV xs lo hi) (cutT ts lo hi) := by
  unfold cutV cutT
  rw [h.length]
  exact (h.drop _).take _
theorem sIx_self {n : Nat} {ts : List T} {lo hi : Option Int} (h1 : HT.sIx ts.length 0 lo = 0) (h2 : HT.sIx ts.length ts.length hi = ts.length) : cutT ts lo hi = ts := by
  unfold cutT
  rw [h1, h2, List.drop_zero, Nat.sub_zero, List.take_length]
theorem y_slT {ts : List T} {lo hi : Option Expr} {i j : Option Int} {p2 : Pos} (h : Py X e ρ (.tup ts)) (hl : PoA X ρ lo i) (hh : PoA X ρ hi j) : Py X (.Subscript e (.Slice lo hi none p2) pos) ρ (.tup (cutT ts i j)) :=
  PyG.of (pe_slice sl_tupA pe_g po_g po_g) fun σ H C B st => g_use h st fun x H1 s1 q1 => po_use hl (st.mono s1) fun H2 s2 => po_use hh (st.mono (s1.trans s2)) fun H3 s3 => by
    obtain ⟨a, xs, rfl, hs, hm⟩ := Im.tup_eq q1
    have s23 := s2.trans s3
    refine ⟨a, xs, rfl, same_t s23 hs, fun hw => ⟨s1.trans s23, ?_⟩, fun hw q hq => ⟨(s1.trans s23).trans (same_new hq), .tup (SqT.of upd_same) (((hm.cut i j).mono s23).mono (same_new hq))⟩⟩
    rw [hm.length] at hw
    rw [sIx_self (n := 0) hw.1 hw.2]
    exact .tup (same_t s23 hs) (hm.mono s23)
theorem y_slL {ts : List T} {lo hi : Option Expr} {i j : Option Int} {p2 : Pos} (h : PyS X e ρ ts) (hl : PoA X ρ lo i) (hh : PoA X ρ hi j) : PyL X (.Subscript e (.Slice lo hi none p2) pos) ρ (cutT ts i j) :=
  PyG.of (pe_slice sl_list pe_g po_g po_g) fun σ H C B st => g_use h st fun x H1 s1 q1 => po_use hl (st.mono s1) fun H2 s2 => po_use hh (st.mono (s1.trans s2)) fun H3 s3 => by
    obtain ⟨a, xs, rfl, hs, hm⟩ := q1
    have s23 := s2.trans s3
    exact ⟨a, xs, rfl, s23.seq hs, fun q hq => ⟨(s1.trans s23).trans (same_new hq), q, _, rfl, (s1.trans s23).free hq, upd_same, ((hm.cut i j).mono s23).mono (same_new hq)⟩⟩
theorem y_catT {ts us : List T} (ha : Py X a ρ (.tup ts)) (hb : Py X b ρ (.tup us)) (hl : ts.length + us.length ≤ 1000) : Py X (.BinOp a .Add b pos) ρ (.tup (ts ++ us)) :=
  y_op op_catA ha hb fun H x H1 y H2 s1 s2 q1 q2 => by
    obtain ⟨p, xs, rfl, hs, hm⟩ := Im.tup_eq q1
    obtain ⟨q, ys, rfl, hs2, hm2⟩ := Im.tup_eq q2
    have hmm := hm.mono s2
    refine ⟨p, q, xs, ys, rfl, rfl, same_t s2 hs, hs2, ?_, fun e => ⟨s1.trans s2, ?_⟩, fun e e2 => ⟨s1.trans s2, ?_⟩, fun e e2 r hr => ⟨(s1.trans s2).trans (same_new hr), .tup (SqT.of upd_same) ((hmm.append hm2).mono (same_new hr))⟩⟩
    · rw [hm.length, hm2.length]
      exact Nat.le_of_lt (small1000 hl)
    · subst e
      cases hm
      exact .tup hs2 hm2
    · subst e2
      cases hm2
      rw [List.append_nil]
      exact .tup (same_t s2 hs) hmm
/-- xs + ys, ones own or new lists -/
def LstOk (K : PySem.W.Frag) (H : Hp) (v : V) (ts : List T) : Prop := ∃ p xs, v = .ref p ∧ H p = some (.lst xs) ∧ ImAll K H xs ts
abbrev PyO (X : Cx) (e : Expr) (ρ : List Sl) (ts : List T) : Prop := PyG X e ρ fun _ v H' => LstOk X.K H' v ts
theorem PyN.o {ts : List T} (h : PyL X e ρ ts) : PyO X e ρ ts := h.imp fun H v H' s ⟨p, xs, a, n, b, c⟩ => ⟨p, xs, a, b, c⟩
theorem yo (i : Nat) {x : Str} {ts : List T} (h : ρ[i]? = some (.own ts) := by rfl) (hN : X.N[i]? = some x := by rfl) (hv : Vis X.env.scope x := by first | exact Or.inl rfl | exact Or.inr (Or.inl rfl) | exact Or.inr (Or.inr rfl)) (hd : (x == ("__debug__" : Str)) = false := by decide)
    (hcd : (x == ("__classdict__" : Str)) = false := by decide) : PyO X (.Name x pos) ρ ts := PyG.of (pe_var hN hv hd hcd) fun σ H C B r => by
  obtain ⟨p, xs, e, _, e2, m⟩ := r.slots i _ h
  exact ⟨.ref p, join_some e, Same.refl H, p, xs, rfl, e2, m⟩
theorem y_catL {ts us : List T} (ha : PyO X a ρ ts) (hb : PyO X b ρ us) (hl : ts.length + us.length ≤ 100000) : PyL X (.BinOp a .Add b pos) ρ (ts ++ us) :=
  y_op op_cat ha hb fun H x H1 y H2 s1 s2 q1 q2 => by
    obtain ⟨p, xs, rfl, hs, hm⟩ := q1
    obtain ⟨q, ys, rfl, hs2, hm2⟩ := q2
    refine ⟨p, q, xs, ys, rfl, rfl, s2 _ _ hs, hs2, ?_, fun r hr => ⟨(s1.trans s2).trans (same_new hr), r, _, rfl, (s1.trans s2).free hr, upd_same, ((hm.mono s2).append hm2).mono (same_new hr)⟩⟩
    rw [hm.length, hm2.length, sizeLine_eq]
    omega
end
end Nine
set_option maxHeartbeats 4000000
/-! K9D: targets, walks, comprehensions. -/
namespace Nine
open PySem PySem.Spec PyProof.Rows L2

/-! ### targets -/
def setMany : L2.St → List Nat → List V → L2.St
  | σ, i :: is, v :: vs => setMany (σ.set i (some v)) is vs
  | σ, _, _ => σ
theorem setMany_app : ∀ {is js : List Nat} {vs ws : List V} {σ : L2.St}, vs.length = is.length → setMany σ (is ++ js) (vs ++ ws) = setMany (setMany σ is vs) js ws
  | [], js, [], ws, σ, _ => by
    show setMany σ js ws = setMany (setMany σ [] []) js ws
    unfold setMany
    rfl
  | i :: is, js, v :: vs, ws, σ, h => by
    show setMany (σ.set i (some v)) (is ++ js) (vs ++ ws) = setMany (setMany (σ.set i (some v)) is vs) js ws
    exact setMany_app (by simpa using h)
def PgT (X : Cx) (tg : Expr) (is : List Nat) (ρ : List Sl) (t : T) (ρ1 : List Sl) : Prop :=
  ∀ (pins : List (Addr × Obj)) (s : Shared) (σ : L2.St) (H C B : Hp) (v : V) (u : Value), Inv X pins σ H s → StR X.K C B σ H ρ → RelV v u → Im X.K H v t →
    wpAny (model X.prog X.w) X.A (assign tg X.env u) (fun _ s' => ∃ vs, vs.length = is.length ∧ Inv X pins (setMany σ is vs) H s' ∧ StR X.K C B (setMany σ is vs) H ρ1) X.xe s
def PgsT (X : Cx) (es : List Expr) (is : List Nat) (ρ : List Sl) (ts : List T) (ρ1 : List Sl) : Prop :=
  ∀ (pins : List (Addr × Obj)) (s : Shared) (σ : L2.St) (H C B : Hp) (ws : List V) (us : List Value), Inv X pins σ H s → StR X.K C B σ H ρ → Vals ws us → ImAll X.K H ws ts →
    wpAny (model X.prog X.w) X.A (assignInOrder ((assignEach es X.env).map (·.2)) us) (fun _ s' => ∃ vs, vs.length = is.length ∧ Inv X pins (setMany σ is vs) H s' ∧ StR X.K C B (setMany σ is vs) H ρ1) X.xe s
section
variable {X : Cx} {e tg : Expr} {es : List Expr} {ρ : List Sl} {pos : Pos}
theorem g_name (i : Nat) {x : Str} {t : T} (hN : X.N.Nodup) (hi : X.N[i]? = some x := by rfl) (hx : Loc X.env.scope x := by first | exact Or.inl rfl | exact Or.inr rfl) (hf : X.fn x = true ∨ X.env.scope.names.lookup x = some .local := by first | exact .inl rfl | exact .inr rfl) :
    PgT X (.Name x pos) [i] ρ t (ρ.set i (.val t)) := fun pins s σ H C B v u I r rv im =>
  thn ((pg_name hN hi hx hf).run pins s σ H v u (fun σ' H' => σ' = σ.set i (some v) ∧ H' = H) I rv ⟨rfl, rfl⟩) fun _ s' ⟨σ', H', I', e1, e2⟩ => by
    subst e1; subst e2
    exact ⟨[v], rfl, I', r.setv ⟨v, rfl, im⟩ rfl⟩
theorem gs_nil : PgsT X [] [] ρ [] ρ := fun pins s σ H C B ws us I r rv im => by
  cases im
  cases rv
  exact assignInOrder_nil ⟨[], rfl, I, r⟩
theorem gs_cons {is js : List Nat} {t : T} {ts : List T} {ρ1 ρ2 : List Sl} (h1 : PgT X e is ρ t ρ1) (h2 : PgsT X es js ρ1 ts ρ2)
    (hs : (assignEach (e :: es) X.env).map (·.2) = assign e X.env :: (assignEach es X.env).map (·.2) := by rfl) : PgsT X (e :: es) (is ++ js) ρ (t :: ts) ρ2 := fun pins s σ H C B ws us I r rv im => by
  cases im with
  | cons m1 m2 =>
    cases rv with
    | cons r1 r2 =>
      rw [hs]
      refine assignInOrder_cons (thn (h1 pins s σ H C B _ _ I r r1 m1) fun _ s1 ⟨vs, hl, I1, st1⟩ => ?_)
      refine thn (h2 pins s1 _ H C B _ _ I1 st1 r2 m2) fun _ s2 ⟨vs2, hl2, I2, st2⟩ => ?_
      rw [← setMany_app hl] at I2 st2
      exact ⟨vs ++ vs2, by rw [List.length_append, List.length_append, hl, hl2], I2, st2⟩
def tGGs (X : Cx) (es : List Expr) : TGs := fun ws σ H Q => ∃ is ρ C B ts ρ1, PgsT X es is ρ ts ρ1 ∧ StR X.K C B σ H ρ ∧ ImAll X.K H ws ts ∧ ∀ vs, vs.length = is.length → StR X.K C B (setMany σ is vs) H ρ1 → Q (setMany σ is vs) H
theorem pgs_g : PGs X es (tGGs X es) := ⟨fun pins s σ H ws us Q I rv h => by
  obtain ⟨is, ρ, C, B, ts, ρ1, g, r, im, k⟩ := h
  exact thn (g pins s σ H C B ws us I r rv im) fun _ s' ⟨vs, hl, I', st⟩ => ⟨_, H, I', k vs hl st⟩⟩
/-- a, b, .. = a tuple -/
theorem g_tup {is : List Nat} {ts : List T} {ρ1 : List Sl} {k : Nat} (hc : X.calm = true) (h : PgsT X es is ρ ts ρ1) (hn : (assignEach es X.env).length = ts.length := by rfl) (hst : (assignEach es X.env).findIdx? (·.1) = none := by rfl) :
    PgT X (.Tuple es k pos) is ρ (.tup ts) ρ1 := fun pins s σ H C B v u I r rv im => by
  obtain ⟨a, xs, e1, hs, hm⟩ := im.tup_eq
  refine thn ((pg_tup (n := ts.length) hc pgs_g hn hst).run pins s σ H v u (fun σ' H' => H' = H ∧ ∃ vs, vs.length = is.length ∧ σ' = setMany σ is vs ∧ StR X.K C B σ' H ρ1) I rv ?_) fun _ s' ⟨σ', H', I', e2, vs, hl, e3, st⟩ => ?_
  · exact ⟨a, xs, e1, hs, hm.length, is, ρ, C, B, ts, ρ1, h, r, hm, fun vs hl st => ⟨rfl, vs, hl, rfl, st⟩⟩
  · subst e2; subst e3
    exact ⟨vs, hl, I', st⟩
def tGG (X : Cx) (tg : Expr) : TG := fun v σ H Q => ∃ is ρ C B t ρ1, PgT X tg is ρ t ρ1 ∧ StR X.K C B σ H ρ ∧ Im X.K H v t ∧ ∀ vs, vs.length = is.length → StR X.K C B (setMany σ is vs) H ρ1 → Q (setMany σ is vs) H
theorem pg_g : PG X tg (tGG X tg) := ⟨fun pins s σ H v u Q I rv h => by
  obtain ⟨is, ρ, C, B, t, ρ1, g, r, im, k⟩ := h
  exact thn (g pins s σ H C B v u I r rv im) fun _ s' ⟨vs, hl, I', st⟩ => ⟨_, H, I', k vs hl st⟩⟩

/-! ### walks -/
structure ItOk (K : PySem.W.Frag) (B : Hp) (J : It) (ts : List T) : Prop where
  small : ts.length ≤ sizeLine
  ex : ∃ G Y, Walk J ts.length G Y ∧ (∀ H, Same B H → G H) ∧ ∀ i H x H', Same B H → i < ts.length → Y i H x H' → Same H H' ∧ ∃ t, ts[i]? = some t ∧ Im K H' x t
theorem ItOk.mono {K : PySem.W.Frag} {B B' : Hp} {J : It} {ts : List T} (h : ItOk K B J ts) (e : Same B B') : ItOk K B' J ts := by
  obtain ⟨G, Y, w, g, y⟩ := h.ex
  exact ⟨h.small, G, Y, w, fun H s => g H (e.trans s), fun i H x H' s => y i H x H' (e.trans s)⟩
/-- a for may walk it, whatever becomes of ones own things -/
def PiI (X : Cx) (tg iter : Expr) (ρ : List Sl) (ts : List T) : Prop := ∀ (pins : List (Addr × Obj)) (s : Shared) (σ : L2.St) (H C B : Hp), Inv X pins σ H s → StR X.K C B σ H ρ →
  wpAny (model X.prog X.w) X.A (eval iter X.env) (fun v s1 => wpAny (model X.prog X.w) X.A (pyIter v) (PIE X pins σ tg fun J H' => Same H H' ∧ ItOk X.K (calm σ ρ H') J ts) X.xe s1) X.xe s
/-- a comprehension may -/
def PiC (X : Cx) (tg iter : Expr) (ρ : List Sl) (ts : List T) : Prop := ∀ (pins : List (Addr × Obj)) (s : Shared) (σ : L2.St) (H C B : Hp), Inv X pins σ H s → StR X.K C B σ H ρ →
  wpAny (model X.prog X.w) X.A (eval iter X.env) (fun v s1 => wpAny (model X.prog X.w) X.A (pyIter v) (PIE X pins σ tg fun J H' => Same H H' ∧ ItOk X.K H' J ts) X.xe s1) X.xe s
variable {iter : Expr} {ts : List T}
theorem pie_mono {pins : List (Addr × Obj)} {σ : L2.St} {R R' : It → Hp → Prop} {v : Value} {s : Shared} (h : PIE X pins σ tg R v s) (k : ∀ J H', R J H' → R' J H') : PIE X pins σ tg R' v s := by
  obtain ⟨it, fp, tn, J, H', e, I, t, a, b, r⟩ := h
  exact ⟨it, fp, tn, J, H', e, I, t, a, b, k J H' r⟩
theorem PiI.c (h : PiI X tg iter ρ ts) : PiC X tg iter ρ ts := fun pins s σ H C B I r =>
  thn (h pins s σ H C B I r) fun v s1 h1 => thn h1 fun itv s2 h2 => pie_mono h2 fun J H' ⟨s, o⟩ => ⟨s, o.mono calm_same⟩
theorem PiI.eq {us : List T} (h : PiI X tg iter ρ ts) (e : ts = us) : PiI X tg iter ρ us := e ▸ h
theorem PiC.eq {us : List T} (h : PiC X tg iter ρ ts) (e : ts = us) : PiC X tg iter ρ us := e ▸ h
theorem PiI.of {wi : TI} (h : PI X tg iter wi) (y : ∀ σ H C B, StR X.K C B σ H ρ → wi σ H fun J H' => Same H H' ∧ ItOk X.K (calm σ ρ H') J ts) : PiI X tg iter ρ ts := fun pins s σ H C B I r => h.run pins s σ H _ I (y σ H C B r)
theorem PiC.of {wi : TI} (h : PI X tg iter wi) (y : ∀ σ H C B, StR X.K C B σ H ρ → wi σ H fun J H' => Same H H' ∧ ItOk X.K H' J ts) : PiC X tg iter ρ ts := fun pins s σ H C B I r => h.run pins s σ H _ I (y σ H C B r)
def tPi (X : Cx) (tg iter : Expr) : TI := fun σ H R => ∃ ρ C B ts, PiI X tg iter ρ ts ∧ StR X.K C B σ H ρ ∧ ∀ J H', Same H H' → ItOk X.K (calm σ ρ H') J ts → R J H'
def tPc (X : Cx) (tg iter : Expr) : TI := fun σ H R => ∃ ρ C B ts, PiC X tg iter ρ ts ∧ StR X.K C B σ H ρ ∧ ∀ J H', Same H H' → ItOk X.K H' J ts → R J H'
theorem pi_g : PI X tg iter (tPi X tg iter) := ⟨fun pins s σ H R I h => by
  obtain ⟨ρ, C, B, ts, g, r, k⟩ := h
  exact thn (g pins s σ H C B I r) fun v s1 h1 => thn h1 fun itv s2 h2 => pie_mono h2 fun J H' ⟨s, o⟩ => k J H' s o⟩
theorem pi_c : PI X tg iter (tPc X tg iter) := ⟨fun pins s σ H R I h => by
  obtain ⟨ρ, C, B, ts, g, r, k⟩ := h
  exact thn (g pins s σ H C B I r) fun v s1 h1 => thn h1 fun itv s2 h2 => pie_mono h2 fun J H' ⟨s, o⟩ => k J H' s o⟩
theorem itok_tup {K : PySem.W.Frag} {B : Hp} {a : Addr} {xs : List V} (hz : xs.length ≤ sizeLine) (hs : SqT K B a xs) (hm : ImAll K B xs ts) : ItOk K B (Itt K a) ts := by
  have hl := hm.length
  refine ⟨by rw [← hl]; exact hz, _, _, by rw [← hl]; exact walk_tup (xs := xs), fun H s => same_t s hs, fun i H x H' s hi y => ?_⟩
  obtain ⟨e, g⟩ := y
  subst e
  obtain ⟨t, ht, im⟩ := (hm.mono s).getv g
  exact ⟨Same.refl _, t, ht, im⟩
theorem itok_lst {K : PySem.W.Frag} {B : Hp} {a : Addr} {xs : List V} (hz : xs.length ≤ sizeLine) (hs : SqL K B a xs) (hm : ImAll K B xs ts) : ItOk K B (Itl K a) ts := by
  have hl := hm.length
  refine ⟨by rw [← hl]; exact hz, _, _, by rw [← hl]; exact walk_list (xs := xs), fun H s => s.seq hs, fun i H x H' s hi y => ?_⟩
  obtain ⟨e, g⟩ := y
  subst e
  obtain ⟨t, ht, im⟩ := (hm.mono s).getv g
  exact ⟨Same.refl _, t, ht, im⟩
/-- a tuple -/
theorem i_tup (h : Py X iter ρ (.tup ts)) : PiI X tg iter ρ ts := PiI.of (pi_tup pe_g) fun σ H C B st => g_useW h st fun x H1 s1 q1 w => by
  obtain ⟨a, xs, rfl, hs, hm⟩ := Im.tup_eq q1
  have st1 := st.mono s1
  exact ⟨a, rfl, ⟨xs, hs⟩, s1, itok_tup (w.tup hs) (st1.calm_t hs) (st1.calm_ims hm)⟩
/-- a new list -/
theorem i_new (h : PyL X iter ρ ts) : PiI X tg iter ρ ts := PiI.of (pi_list pe_g) fun σ H C B st => g_useW h st fun x H1 s1 q1 w => by
  obtain ⟨a, xs, rfl, hn, hs, hm⟩ := q1
  have st1 := st.mono s1
  refine ⟨a, rfl, ⟨xs, SqL.of hs⟩, s1, itok_lst (w.lst (SqL.of hs)) (st1.calm_l (SqL.of hs) fun z => ?_) (st1.calm_ims hm)⟩
  exact (st.own_none z).2.2.2 hn
/-- any list, for a comprehension -/
theorem i_lst (h : PyS X iter ρ ts) : PiC X tg iter ρ ts := PiC.of (pi_list pe_g) fun σ H C B st => g_useW h st fun x H1 s1 q1 w => by
  obtain ⟨a, xs, rfl, hs, hm⟩ := q1
  exact ⟨a, rfl, ⟨xs, hs⟩, s1, itok_lst (w.lst hs) hs hm⟩
theorem itok_range {K : PySem.W.Frag} {B : Hp} {lo : Int} {n : Nat} (hn : n ≤ 100000) : ItOk K B (Itr lo n) ((List.range n).map fun k : Nat => T.int (lo + (k : Int))) := by
  refine ⟨by rw [List.length_map, List.length_range, sizeLine_eq]; omega, _, _, by rw [List.length_map, List.length_range]; exact walk_range, fun _ _ => trivial, fun i H x H' s hi y => ?_⟩
  obtain ⟨e, g⟩ := y
  subst e; subst g
  rw [List.length_map, List.length_range] at hi
  exact ⟨Same.refl _, .int (lo + i), by rw [List.getElem?_map, List.getElem?_range hi]; rfl, .int _⟩
/-- range(j), range(i, j) -/
theorem i_rng1 {n : Nat} {a : Expr} {p : Pos} (h : Py X a ρ (.int n)) (hn : n ≤ 100000) (hm : X.mg "range" = none) (hg : Gl X "range" := by rfl) (hs : starEach [a] X.env = [(false, eval a X.env)] := by rfl) :
    PiI X tg (.Call (.Name "range" p) [a] [] pos) ρ ((List.range n).map fun k : Nat => T.int (k : Int)) := PiI.of (pi_range1 hg hm (pa_cons pe_g pa_nil hs) hs) fun σ H C B st => g_use h st fun x H1 s1 q1 => by
  refine ⟨n, by rw [Im.int_eq q1], by omega, by omega, s1, ?_⟩
  have := itok_range (K := X.K) (B := calm σ ρ H1) (lo := 0) hn
  simp only [Int.zero_add] at this
  exact this
theorem i_rng2 {i j : Int} {a b : Expr} {p : Pos} (h : Py X a ρ (.int i)) (h2 : Py X b ρ (.int j)) (hb : -100000 ≤ i ∧ i ≤ 100000 ∧ -100000 ≤ j ∧ j ≤ 100000) (hn : (j - i).toNat ≤ 100000) (hm : X.mg "range" = none) (hg : Gl X "range" := by rfl)
    (hs : starEach [a, b] X.env = [(false, eval a X.env), (false, eval b X.env)] := by rfl) (hs2 : starEach [b] X.env = [(false, eval b X.env)] := by rfl) :
    PiI X tg (.Call (.Name "range" p) [a, b] [] pos) ρ ((List.range (j - i).toNat).map fun k : Nat => T.int (i + (k : Int))) := PiI.of (pi_range2 hg hm (pa_cons pe_g (pa_cons pe_g pa_nil hs2) (by rw [hs, hs2])) hs hs2) fun σ H C B st => g_use h st fun x H1 s1 q1 => g_use h2 (st.mono s1) fun y H2 s2 q2 => by
  refine ⟨i, j, by rw [Im.int_eq q1, Im.int_eq q2], ⟨by omega, by omega, by omega, by omega⟩, s1.trans s2, itok_range hn⟩
/-- range(n - 1, -1, -1) -/
theorem i_rngD {i : Int} {a b c : Expr} {p : Pos} (h : Py X a ρ (.int i)) (h2 : Py X b ρ (.int (-1))) (h3 : Py X c ρ (.int (-1))) (hi : -1 ≤ i ∧ i ≤ 10000) (hm : X.mg "range" = none) (hg : Gl X "range" := by rfl)
    (hs : starEach [a, b, c] X.env = (false, eval a X.env) :: starEach [b, c] X.env := by rfl) (hs2 : starEach [b, c] X.env = (false, eval b X.env) :: starEach [c] X.env := by rfl) (hs3 : starEach [c] X.env = (false, eval c X.env) :: starEach [] X.env := by rfl) (hpl : (backTo pos (starEach [b, c] X.env)).any (·.1) = false := by rfl) :
    PiI X tg (.Call (.Name "range" p) [a, b, c] [] pos) ρ ((List.range (i + 1).toNat).map fun k : Nat => T.int (i - (k : Int))) := PiI.of (pi_range3 hg hm (pa_cons pe_g (pa_cons pe_g (pa_cons pe_g pa_nil hs3) hs2) hs) hs hpl) fun σ H C B st => g_use h st fun x H1 s1 q1 => g_use h2 (st.mono s1) fun y H2 s2 q2 => g_use h3 (st.mono (s1.trans s2)) fun z H3 s3 q3 => by
  have hr := RgC.neg (i := i) (j := -1) (by omega) (by omega) (by omega) (by omega)
  refine ⟨i, -1, -1, (i - -1).toNat, by rw [Im.int_eq q1, Im.int_eq q2, Im.int_eq q3], hr, (s1.trans s2).trans s3, ?_⟩
  have e : (i - -1).toNat = (i + 1).toNat := by omega
  rw [e]
  refine ⟨by rw [List.length_map, List.length_range, sizeLine_eq]; omega, _, _, by rw [List.length_map, List.length_range]; exact walk_rangeC, fun _ _ => trivial, fun k H x H' s hk y => ?_⟩
  obtain ⟨e, g⟩ := y
  subst e; subst g
  rw [List.length_map, List.length_range] at hk
  refine ⟨Same.refl _, .int (i - k), by rw [List.getElem?_map, List.getElem?_range hk]; rfl, ?_⟩
  show Im X.K H' (V.int (i + (k : Int) * -1)) (T.int (i - k))
  rw [show i + (k : Int) * (-1) = i - k by omega]
  exact .int _
theorem itok_pair {K : PySem.W.Frag} {B : Hp} {J : It} {n : Nat} {G : Hp → Prop} {us vs : Nat → Option V} {ss ts : List T} (hz : n ≤ sizeLine) (w : Walk J n G (YPair us vs)) (hG : ∀ H, Same B H → G H) (h1 : ∀ i < n, ∀ v, us i = some v → ∃ t, ss[i]? = some t ∧ Im K B v t) (h2 : ∀ i < n, ∀ v, vs i = some v → ∃ t, ts[i]? = some t ∧ Im K B v t)
    (l1 : n ≤ ss.length) (l2 : n ≤ ts.length) (hn : (List.zipWith (fun a b => T.tup [a, b]) ss ts).length = n) : ItOk K B J (List.zipWith (fun a b => T.tup [a, b]) ss ts) := by
  refine ⟨by rw [hn]; exact hz, G, _, by rw [hn]; exact w, hG, fun i H x H' s hi y => ?_⟩
  rw [hn] at hi
  obtain ⟨q, a, b, rfl, hq, rfl, e1, e2⟩ := y
  obtain ⟨t, ht, m1⟩ := h1 i hi a e1
  obtain ⟨u, hu, m2⟩ := h2 i hi b e2
  have sn : Same H (upd H q (.tup [a, b])) := same_new hq
  refine ⟨sn, .tup [t, u], ?_, .tup (SqT.of upd_same) (.cons (m1.mono (s.trans sn)) (.one (m2.mono (s.trans sn))))⟩
  rw [List.getElem?_zipWith, ht, hu]
/-- zip(t, u) of tuples; enumerate(list) -/
theorem i_zipT {e2 : Expr} {ss us : List T} {elts : List Expr} {kk : Nat} {tpos p : Pos} (h : Py X e ρ (.tup ss)) (h2 : Py X e2 ρ (.tup us)) (hl : ss.length = us.length) (hm : X.mg "zip" = none) (hg : Gl X "zip" := by rfl)
    (hs : starEach [e, e2] X.env = (false, eval e X.env) :: starEach [e2] X.env := by rfl) (hs2 : starEach [e2] X.env = (false, eval e2 X.env) :: starEach [] X.env := by rfl) (hpl : (backTo pos (starEach [e2] X.env)).any (·.1) = false := by rfl) :
    PiI X (.Tuple elts kk tpos) (.Call (.Name "zip" p) [e, e2] [] pos) ρ (List.zipWith (fun a b => T.tup [a, b]) ss us) := PiI.of (RZ.pi_zipA hg hm (pa_cons pe_g (pa_cons pe_g pa_nil hs2) hs) hs hpl) fun σ H C B st => g_useW h st fun x H1 s1 q1 w1 => g_useW h2 (st.mono s1) fun y H2 s2 q2 w2 => by
  obtain ⟨a, xs, rfl, hsx, hmx⟩ := Im.tup_eq q1
  obtain ⟨b, ys, rfl, hsy, hmy⟩ := Im.tup_eq q2
  have st2 := st.mono (s1.trans s2)
  have l1 := hmx.length
  have l2 := hmy.length
  refine ⟨a, b, xs, ys, rfl, .inr ⟨same_t s2 hsx, hsy, s1.trans s2, ?_⟩⟩
  have c1 := st2.calm_t (same_t s2 hsx)
  have c2 := st2.calm_t hsy
  have m1 := st2.calm_ims (hmx.mono s2)
  have m2 := st2.calm_ims hmy
  refine itok_pair (n := xs.length) (G := fun H => SqT X.K H a xs ∧ SqT X.K H b ys) (us := fun i => xs[i]?) (vs := fun i => ys[i]?) (w1.tup hsx) ⟨fun i H hi g => ?_, fun H g => ?_, fun i H x H' hi g y => ?_⟩ (fun H s => ⟨same_t s c1, same_t s c2⟩) (fun i _ v hv => m1.getv hv) (fun i _ v hv => m2.getv hv) (by omega) (by omega) (by rw [List.length_zipWith]; omega)
  · exact ⟨xs, ys, xs[i], ys[i]'(by omega), g.1, g.2, by simp [hi], by simp [show i < ys.length by omega]⟩
  · exact ⟨xs, ys, g.1, g.2, by omega⟩
  · obtain ⟨q, x, z, h1, h2, h3, h4, h5⟩ := y
    exact ⟨q, x, z, h1, h2, h3, h4 xs g.1, h5 ys g.2⟩
theorem i_enumL {elts : List Expr} {kk : Nat} {tpos p : Pos} (h : PyL X e ρ ts) (hm : X.mg "enumerate" = none) (hg : Gl X "enumerate" := by rfl) (hs : starEach [e] X.env = (false, eval e X.env) :: starEach [] X.env := by rfl) :
    PiI X (.Tuple elts kk tpos) (.Call (.Name "enumerate" p) [e] [] pos) ρ (List.zipWith (fun a b => T.tup [a, b]) ((List.range ts.length).map fun k : Nat => T.int (k : Int)) ts) := PiI.of (pi_enum hg hm (pa_cons pe_g pa_nil hs) hs) fun σ H C B st => g_useW h st fun x H1 s1 q1 w1 => by
  obtain ⟨a, xs, rfl, hn, hsx, hmx⟩ := q1
  have st1 := st.mono s1
  have l1 := hmx.length
  have c1 : SqL X.K (calm σ ρ H1) a xs := st1.calm_l (SqL.of hsx) fun z => (st.own_none z).2.2.2 hn
  have m1 := st1.calm_ims hmx
  refine ⟨a, xs, rfl, SqL.of hsx, s1, itok_pair (n := xs.length) (w1.lst (SqL.of hsx)) walk_enum (fun H s => s.seq c1) (fun i hi v hv => ?_) (fun i _ v hv => m1.getv hv) (by rw [List.length_map, List.length_range]; omega) (by omega) (by rw [List.length_zipWith, List.length_map, List.length_range]; omega)⟩
  have hv' : some (V.int (i : Nat)) = some v := hv
  cases hv'
  exact ⟨.int (i : Nat), by rw [List.getElem?_map, List.getElem?_range (by omega)]; rfl, .int _⟩
end

/-! ### comprehensions -/
def dropR (ρ : List Sl) : List Nat → List Sl
  | [] => ρ
  | v :: vs => (dropR ρ vs).set v .no
theorem StR.dropR {K : PySem.W.Frag} {C B H : Hp} {σ : L2.St} {ρ : List Sl} (r : StR K C B σ H ρ) : ∀ vs : List Nat, StR K C B (wipe σ vs) H (Nine.dropR ρ vs)
  | [] => r
  | v :: vs => (StR.dropR r vs).drop
theorem wipe_get (σ : L2.St) (j : Nat) : ∀ vs : List Nat, (wipe σ vs)[j]? = if j ∈ vs ∧ j < σ.length then some none else σ[j]?
  | [] => by rw [if_neg (by simp)]; rfl
  | v :: vs => by
    show ((wipe σ vs).set v none)[j]? = _
    by_cases e : v = j
    · subst e
      by_cases h : v < σ.length
      · rw [List.getElem?_set_self (by rw [wipe_length]; exact h), if_pos ⟨List.mem_cons_self, h⟩]
      · rw [List.getElem?_eq_none (by rw [List.length_set, wipe_length]; omega), if_neg (fun z => h z.2), List.getElem?_eq_none (by omega)]
    · rw [List.getElem?_set_ne e, wipe_get σ j vs]
      by_cases h : j ∈ vs ∧ j < σ.length
      · rw [if_pos h, if_pos ⟨List.mem_cons_of_mem _ h.1, h.2⟩]
      · rw [if_neg h, if_neg]
        rintro ⟨z, z2⟩
        rcases List.mem_cons.mp z with q | q
        · exact e q.symm
        · exact h ⟨q, z2⟩
theorem setMany_length : ∀ (σ : L2.St) (is : List Nat) (vs : List V), (setMany σ is vs).length = σ.length
  | σ, [], _ => by unfold setMany; rfl
  | σ, _ :: _, [] => by unfold setMany; rfl
  | σ, i :: is, v :: vs => by
    show (setMany (σ.set i (some v)) is vs).length = _
    rw [setMany_length, List.length_set]
theorem setMany_get : ∀ (σ : L2.St) (is : List Nat) (vs : List V) (j : Nat), j ∉ is → (setMany σ is vs)[j]? = σ[j]?
  | σ, [], _, _, _ => by unfold setMany; rfl
  | σ, _ :: _, [], _, _ => by unfold setMany; rfl
  | σ, i :: is, v :: vs, j, h => by
    show (setMany (σ.set i (some v)) is vs)[j]? = _
    rw [setMany_get _ is vs j (fun z => h (List.mem_cons_of_mem _ z)), List.getElem?_set_ne (fun z => h (by rw [z]; exact List.mem_cons_self))]
theorem wipe_many {σ : L2.St} {is : List Nat} {vs : List V} {own : List Nat} (h : ∀ i ∈ is, i ∈ own) : wipe (setMany (wipe σ own) is vs) own = wipe σ own := by
  refine List.ext_getElem? fun j => ?_
  rw [wipe_get, setMany_length, wipe_length]
  by_cases hj : j ∈ own ∧ j < σ.length
  · rw [if_pos hj, wipe_get, if_pos hj]
  · rw [if_neg hj]
    by_cases hm : j ∈ is
    · have hl : ¬ j < σ.length := fun z => hj ⟨h j hm, z⟩
      rw [List.getElem?_eq_none (by rw [setMany_length, wipe_length]; omega), List.getElem?_eq_none (by rw [wipe_length]; omega)]
    · rw [setMany_get _ _ _ _ hm]
def PtsT (X : Cx) (ifs : List Expr) (ρ : List Sl) (b : Bool) : Prop := ∀ (pins : List (Addr × Obj)) (s : Shared) (σ : L2.St) (H C B : Hp), Inv X pins σ H s → StR X.K C B σ H ρ →
  wpAny (model X.prog X.w) X.A (forIn ifs true fun c r => if r = true then do let ok ← isTrue c X.env (eval c X.env); pure (ForInStep.yield ok) else pure (ForInStep.yield r)) (TP X pins σ fun k H' => Same H H' ∧ k = b) X.xe s
section
variable {X : Cx} {e tg iter elt c : Expr} {es ifs : List Expr} {ρ : List Sl} {pos : Pos} {scope : Scope} {own : List (Str × Nat)}
theorem ts_nil : PtsT X [] ρ true := fun pins s σ H C B I r => pts_nil.run pins s σ H _ I ⟨Same.refl H, rfl⟩
theorem ts_one {b : Bool} (h : Pt X c ρ b) : PtsT X [c] ρ b := fun pins s σ H C B I r => (pts_one pt_g).run pins s σ H _ I (gt_use h r fun H' s' => ⟨s', rfl⟩)
abbrev Bk (X : Cx) (scope : Scope) (s : Shared) (H : Hp) (C : Addr) (cl : List (Str × Addr)) (fp : List Addr) : Cx := X.blk s H scope (compEnvC scope cl C X.env) fp
/-- one turn of a comprehension: target, test, element -/
structure Tn (Y : Cx) (tg : Expr) (is : List Nat) (ρ : List Sl) (t : T) (ρ1 : List Sl) (ifs : List Expr) (b : Bool) : Prop where
  tgt : PgT Y tg is ρ t ρ1
  tst : PtsT Y ifs ρ1 b
/-- the same readings for all blocks -/
def bG (X : Cx) (scope : Scope) (e : Expr) : TE := fun σ H Q => ∃ ρ C B R, (∀ s H C cl fp, PyG (Bk X scope s H C cl fp) e ρ R) ∧ StR X.K C B σ H ρ ∧ ∀ v H', Same H H' → R H v H' → Q v H'
def bGG (X : Cx) (scope : Scope) (tg : Expr) : TG := fun v σ H Q => ∃ is ρ C B t ρ1, (∀ s H C cl fp, PgT (Bk X scope s H C cl fp) tg is ρ t ρ1) ∧ StR X.K C B σ H ρ ∧ Im X.K H v t ∧ ∀ vs, vs.length = is.length → StR X.K C B (setMany σ is vs) H ρ1 → Q (setMany σ is vs) H
def bGT (X : Cx) (scope : Scope) (ifs : List Expr) : TT := fun σ H Q => ∃ ρ C B b, (∀ s H C cl fp, PtsT (Bk X scope s H C cl fp) ifs ρ b) ∧ StR X.K C B σ H ρ ∧ ∀ H', Same H H' → Q b H'
def bPc (X : Cx) (scope : Scope) (tg iter : Expr) : TI := fun σ H R => ∃ ρ C B ts, (∀ s H C cl fp, PiC (Bk X scope s H C cl fp) tg iter ρ ts) ∧ StR X.K C B σ H ρ ∧ ∀ J H', Same H H' → ItOk X.K H' J ts → R J H'
theorem pe_b (s : Shared) (H : Hp) (C : Addr) (cl : List (Str × Addr)) (fp : List Addr) : PE (Bk X scope s H C cl fp) e (bG X scope e) := ⟨fun pins s' σ H' Q I h => by
  obtain ⟨ρ, C', B, R, g, r, k⟩ := h
  exact thn (g s H C cl fp pins s' σ H' C' B I r) fun u s2 ⟨v, H2, I2, rv, sm, q⟩ => ⟨v, H2, I2, rv, k v H2 sm q⟩⟩
theorem pg_b (s : Shared) (H : Hp) (C : Addr) (cl : List (Str × Addr)) (fp : List Addr) : PG (Bk X scope s H C cl fp) tg (bGG X scope tg) := ⟨fun pins s' σ H' v u Q I rv h => by
  obtain ⟨is, ρ, C', B, t, ρ1, g, r, im, k⟩ := h
  exact thn (g s H C cl fp pins s' σ H' C' B v u I r rv im) fun _ s2 ⟨vs, hl, I', st⟩ => ⟨_, H', I', k vs hl st⟩⟩
theorem pts_b (s : Shared) (H : Hp) (C : Addr) (cl : List (Str × Addr)) (fp : List Addr) : PTs (Bk X scope s H C cl fp) ifs (bGT X scope ifs) := ⟨fun pins s' σ H' Q I h => by
  obtain ⟨ρ, C', B, b, g, r, k⟩ := h
  refine thn (g s H C cl fp pins s' σ H' C' B I r) fun b' s2 ⟨H2, I2, sm, q⟩ => ⟨H2, I2, ?_⟩
  subst q
  exact k H2 sm⟩
theorem pi_b (s : Shared) (H : Hp) (C : Addr) (cl : List (Str × Addr)) (fp : List Addr) : PI (Bk X scope s H C cl fp) tg iter (bPc X scope tg iter) := ⟨fun pins s' σ H' R I h => by
  obtain ⟨ρ, C', B, ts, g, r, k⟩ := h
  exact thn (g s H C cl fp pins s' σ H' C' B I r) fun v s1 h1 => thn h1 fun itv s2 h2 => pie_mono h2 fun J H' ⟨s, o⟩ => k J H' s o⟩

/-- the state of a new list between two turns -/
structure LcAt (K : PySem.W.Frag) (H1 : Hp) (D : Addr) (n : Nat) (us : List T) (H : Hp) : Prop where
  same : Same H1 H
  ex : ∃ acc, H D = some (.lst acc) ∧ acc.length ≤ n ∧ ImAll K H acc us
theorem LcAt.start {K : PySem.W.Frag} {H1 : Hp} {D : Addr} (hD : H1 D = none) : LcAt K H1 D 0 [] (upd H1 D (.lst [])) := ⟨same_new hD, [], upd_same, Nat.le_refl _, .nil⟩
theorem LcAt.mono {K : PySem.W.Frag} {H1 H H' : Hp} {D : Addr} {n : Nat} {us : List T} (h : LcAt K H1 D n us H) (e : Same H H') : LcAt K H1 D n us H' := by
  obtain ⟨acc, h1, h2, h3⟩ := h.ex
  exact ⟨h.same.trans e, acc, e _ _ h1, h2, h3.mono e⟩
theorem LcAt.add {K : PySem.W.Frag} {H1 H : Hp} {D : Addr} {n : Nat} {us : List T} {t : T} {y : V} (h : LcAt K H1 D n us H) (hD : H1 D = none) (hn : n < sizeLine) (im : Im K H y t) : ∃ acc, H D = some (.lst acc) ∧ acc.length < sizeLine ∧ LcAt K H1 D (n + 1) (us ++ [t]) (upd H D (.lst (acc ++ [y]))) := by
  obtain ⟨acc, h1, h2, h3⟩ := h.ex
  have k : TK K H (upd H D (.lst (acc ++ [y]))) := tk_upd (fun xs z => by rw [h1] at z; cases z) fun u xs z => by rw [h1] at z; cases z
  exact ⟨acc, h1, Nat.lt_of_le_of_lt h2 hn, same_mut h.same hD, acc ++ [y], upd_same, by rw [List.length_append]; exact Nat.succ_le_succ h2, (h3.append (.one im)).tk k⟩
theorem LcAt.skip {K : PySem.W.Frag} {H1 H : Hp} {D : Addr} {n : Nat} {us : List T} (h : LcAt K H1 D n us H) : LcAt K H1 D (n + 1) us H := by
  obtain ⟨acc, h1, h2, h3⟩ := h.ex
  exact ⟨h.same, acc, h1, Nat.le_succ_of_le h2, h3⟩
theorem take_snoc {α : Type} {l : List α} {i : Nat} {x : α} (h : l[i]? = some x) : l.take (i + 1) = l.take i ++ [x] := by
  rw [List.take_add_one, h]
  rfl
theorem lc_read {α : Type} {l : List α} {enc : α → T} {fb : α → Bool} {fu : α → T} {is : List Nat} (hi : PiC X tg iter ρ (l.map enc)) (his : ∀ i ∈ is, i ∈ own.map (·.2))
    (turn : ∀ x ∈ l, ∃ ρ1, ∀ s H C cl fp, Tn (Bk X scope s H C cl fp) tg is (dropR ρ (own.map (·.2))) (enc x) ρ1 ifs (fb x) ∧ (fb x = true → Py (Bk X scope s H C cl fp) elt ρ1 (fu x)))
    {σ : L2.St} {H C B : Hp} {Q : VK} (st : StR X.K C B σ H ρ) (q : ∀ v H', Same H H' → NewOk X.K H H' v (.s ((l.filter fb).map fu)) → Q v H') :
    tLc (tPc X tg iter) (bGG X scope tg) (bGT X scope ifs) (bG X scope elt) (own.map (·.2)) σ H Q := by
  refine ⟨ρ, C, B, _, hi, st, fun J H1 s1 io D hD => ?_⟩
  obtain ⟨G, Y, w, hG, hY⟩ := io.ex
  have hsz := io.small
  rw [List.length_map] at w hsz hY
  refine lc_it w (Qd := fun H' => Q (.ref D) H') (fun i H' => LcAt X.K H1 D i (((l.take i).filter fb).map fu) H') (LcAt.start hD) (fun i H' _ p => hG H' p.same) (fun i x H2 H3 hil p y => ?_) fun H' p => ?_
  · obtain ⟨sy, t, ht, im⟩ := hY i H2 x H3 p.same hil y
    rw [List.getElem?_map] at ht
    have hx : l[i]? = some l[i] := List.getElem?_eq_getElem hil
    rw [hx] at ht
    obtain rfl : enc l[i] = t := Option.some.inj ht
    obtain ⟨ρ1, tn⟩ := turn l[i] (List.getElem_mem hil)
    have st3 : StR X.K C B σ H3 ρ := st.mono ((s1.trans p.same).trans sy)
    have p3 := p.mono sy
    refine ⟨is, _, C, B, _, ρ1, fun s H C cl fp => (tn s H C cl fp).1.tgt, st3.dropR _, im, fun vs hl st4 => ⟨wipe_many his, ρ1, C, B, fb l[i], fun s H C cl fp => (tn s H C cl fp).1.tst, st4, fun H4 s4 => ?_⟩⟩
    have ef : ((l.take (i + 1)).filter fb).map fu = ((l.take i).filter fb).map fu ++ (if fb l[i] = true then [fu l[i]] else []) := by
      rw [take_snoc hx, List.filter_append, List.map_append, List.filter_cons]
      by_cases hb : fb l[i] = true
      · rw [if_pos hb, if_pos hb]; rfl
      · rw [if_neg hb, if_neg hb]; rfl
    by_cases hb : fb l[i] = true
    · dsimp only
      rw [if_pos hb]
      rw [if_pos hb] at ef
      refine ⟨ρ1, C, B, fun _ v H' => ArgOk X.K H' v (.t (fu l[i])), fun s H C cl fp => (tn s H C cl fp).2 hb, st4.mono s4, fun y H5 s5 im5 => ?_⟩
      obtain ⟨acc, e1, e2, e3⟩ := ((p3.mono s4).mono s5).add hD (Nat.lt_of_lt_of_le hil hsz) im5
      rw [← ef] at e3
      exact ⟨acc, e1, e2, e3⟩
    · dsimp only
      rw [if_neg hb]
      rw [if_neg hb, List.append_nil] at ef
      rw [ef]
      exact (p3.mono s4).skip
  · rw [List.take_length] at p
    obtain ⟨acc, h1, _, h3⟩ := p.ex
    exact q _ _ (s1.trans p.same) ⟨D, acc, rfl, s1.free hD, h1, h3⟩
/-- [elt for tg in iter if ..] -/
theorem y_lc {α : Type} (l : List α) (enc : α → T) (fb : α → Bool) (fu : α → T) (is : List Nat) (hc : X.calm = true) (hN : X.N.Nodup) (hi : PiC X tg iter ρ (l.map enc)) (ok : BlkOk X.N X.env.scope scope own) (his : ∀ i ∈ is, i ∈ own.map (·.2))
    (turn : ∀ x ∈ l, ∃ ρ1, ∀ s H C cl fp, Tn (Bk X scope s H C cl fp) tg is (dropR ρ (own.map (·.2))) (enc x) ρ1 ifs (fb x) ∧ (fb x = true → Py (Bk X scope s H C cl fp) elt ρ1 (fu x)))
    (hs : ∀ x, foldedSetIterable iter X.env x = pure x := by intro _; rfl) : PyL X (.ListComp elt [⟨tg, iter, ifs, 0⟩] scope pos) ρ ((l.filter fb).map fu) :=
  PyG.of (pe_lc hc hN pi_c ok pg_b pts_b pe_b hs) fun σ H C B st => lc_read hi his turn st fun v H' s q => ⟨s, q⟩
/-- without a test -/
theorem y_lm {α : Type} (l : List α) (enc : α → T) (fu : α → T) (is : List Nat) (hc : X.calm = true) (hN : X.N.Nodup) (hi : PiC X tg iter ρ (l.map enc)) (ok : BlkOk X.N X.env.scope scope own) (his : ∀ i ∈ is, i ∈ own.map (·.2))
    (turn : ∀ x ∈ l, ∃ ρ1, ∀ s H C cl fp, PgT (Bk X scope s H C cl fp) tg is (dropR ρ (own.map (·.2))) (enc x) ρ1 ∧ Py (Bk X scope s H C cl fp) elt ρ1 (fu x))
    (hs : ∀ x, foldedSetIterable iter X.env x = pure x := by intro _; rfl) : PyL X (.ListComp elt [⟨tg, iter, [], 0⟩] scope pos) ρ (l.map fu) := by
  have h := y_lc (ifs := []) (elt := elt) (pos := pos) l enc (fun _ => true) fu is hc hN hi ok his (fun x hx => by
    obtain ⟨ρ1, t⟩ := turn x hx
    exact ⟨ρ1, fun s H C cl fp => ⟨⟨(t s H C cl fp).1, ts_nil⟩, fun _ => (t s H C cl fp).2⟩⟩) hs
  rw [List.filter_eq_self.mpr (fun _ _ => rfl)] at h
  exact h
/-- {k: v for tg in iter} -/
theorem y_dc {α : Type} (l : List α) (enc : α → T) (fk : α → Str) (fv : α → T) (is : List Nat) {kx vx : Expr} (hc : X.calm = true) (hN : X.N.Nodup) (hi : PiC X tg iter ρ (l.map enc)) (ok : BlkOk X.N X.env.scope scope own) (his : ∀ i ∈ is, i ∈ own.map (·.2))
    (turn : ∀ x ∈ l, ∃ ρ1, ∀ s H C cl fp, PgT (Bk X scope s H C cl fp) tg is (dropR ρ (own.map (·.2))) (enc x) ρ1 ∧ Py (Bk X scope s H C cl fp) kx ρ1 (.str (fk x)) ∧ Py (Bk X scope s H C cl fp) vx ρ1 (fv x))
    (hs : ∀ x, foldedSetIterable iter X.env x = pure x := by intro _; rfl) : PyN X (.DictComp kx vx [⟨tg, iter, [], 0⟩] scope pos) ρ (.d (l.foldl (fun d x => dPut d (fk x) (fv x)) [])) := by
  refine PyG.of (pe_dc hc hN pi_c ok pg_b pts_b pe_b pe_b hs) fun σ H C B st => ?_
  refine ⟨ρ, C, B, _, hi, st, fun J H1 s1 io D hD => ?_⟩
  obtain ⟨G, Y, w, hG, hY⟩ := io.ex
  have hsz := io.small
  rw [List.length_map] at w hsz hY
  refine ⟨fun i m H' => m = l.length - i ∧ i ≤ l.length ∧ Same H1 H' ∧ ∃ ks, H' D = some (.dK ks) ∧ ks.length ≤ i ∧ KvOk X.K H' ks ((l.take i).foldl (fun d x => dPut d (fk x) (fv x)) []), ⟨l.length, by simp, Nat.zero_le _, same_new hD, [], upd_same, Nat.le_refl _, trivial⟩, ?_⟩
  rintro i m H2 ⟨rfl, hil, p, ks, k1, k2, k3⟩
  by_cases hlt : i < l.length
  · refine .inr ⟨w.goes i H2 hlt (hG H2 p), fun H' => Same H1 H' ∧ ∃ ks, H' D = some (.dK ks) ∧ ks.length ≤ i + 1 ∧ KvOk X.K H' ks ((l.take (i + 1)).foldl (fun d x => dPut d (fk x) (fv x)) []), fun H' p' => ⟨l.length - (i + 1), by omega, rfl, hlt, p'⟩, fun x H3 y => ?_⟩
    obtain ⟨sy, t, ht, im⟩ := hY i H2 x H3 p hlt (w.yields i H2 x H3 hlt (hG H2 p) y)
    rw [List.getElem?_map] at ht
    have hx : l[i]? = some l[i] := List.getElem?_eq_getElem hlt
    rw [hx] at ht
    obtain rfl : enc l[i] = t := Option.some.inj ht
    obtain ⟨ρ1, tn⟩ := turn l[i] (List.getElem_mem hlt)
    have st3 : StR X.K C B σ H3 ρ := st.mono ((s1.trans p).trans sy)
    refine ⟨is, _, C, B, _, ρ1, fun s H C cl fp => (tn s H C cl fp).1, st3.dropR _, im, fun vs hl st4 => ⟨wipe_many his, ρ1, C, B, true, fun s H C cl fp => ts_nil, st4, fun H4 s4 => iteT ?_⟩⟩
    refine ⟨ρ1, C, B, fun _ v H' => ArgOk X.K H' v (.t (.str (fk l[i]))), fun s H C cl fp => (tn s H C cl fp).2.1, st4.mono s4, fun v5 H5 s5 im5 => ?_⟩
    refine ⟨ρ1, C, B, fun _ v H' => ArgOk X.K H' v (.t (fv l[i])), fun s H C cl fp => (tn s H C cl fp).2.2, (st4.mono s4).mono s5, fun v6 H6 s6 im6 => ?_⟩
    have s26 : Same H2 H6 := ((sy.trans s4).trans s5).trans s6
    have hz : H6 D = some (.dK ks) := s26 _ _ k1
    have k : TK X.K H6 (upd H6 D (.dK (putK ks (.inr (fk l[i])) v6))) := tk_upd (fun xs z => by rw [hz] at z; cases z) fun u xs z => by rw [hz] at z; cases z
    refine ⟨ks, .inr (fk l[i]), Im.str_eq im5, hz, by omega, same_mut (p.trans s26) hD, _, upd_same, Nat.le_trans (length_putK _ _ _) (by omega), ?_⟩
    rw [take_snoc hx, List.foldl_append]
    exact (KvOk.put (k3.tk (tk_same s26)) im6).tk k
  · have e : i = l.length := by omega
    subst e
    rw [List.take_length] at k3
    exact .inl ⟨w.stops H2 (hG H2 p), s1.trans p, D, ks, rfl, s1.free hD, k1, k3⟩
theorem StR.poor {K : PySem.W.Frag} {C B H : Hp} {σ : L2.St} {D : Addr} {o : HO} (r : StR K C B σ H ρ) (hn : ρ.all (fun a => !a.mine) = true) (hB : B D = none) (k : TK K H (upd H D o)) : StR K C B σ (upd H D o) ρ :=
  ⟨r.cb, same_mut r.base hB, r.len, fun i a ha => SlOk.tk k (fun m => by
    have h := List.all_eq_true.mp hn a (List.mem_of_getElem? ha)
    rw [m] at h
    cases h) (r.slots i a ha), r.apart⟩
/-- [elt for tg in iter for tg1 in a tuple] -/
theorem y_lc2 {α β : Type} (l : List α) (enc : α → T) (l1 : α → List β) (enc1 : β → T) (fu : α → β → T) (is js : List Nat) {tg1 iter1 : Expr} {vs1 : List Nat} (hc : X.calm = true) (hN : X.N.Nodup) (hi : PiC X tg iter ρ (l.map enc)) (ok : BlkOk X.N X.env.scope scope own) (his : ∀ i ∈ is, i ∈ own.map (·.2))
    (hv : ∀ i ∈ vs1, i ∈ own.map (·.2)) (hjs : ∀ i ∈ js, i ∈ vs1)
    (turn : ∀ x ∈ l, ∃ ρ1, ρ1.all (fun a => !a.mine) = true ∧ (∀ s H C cl fp, PgT (Bk X scope s H C cl fp) tg is (dropR ρ (own.map (·.2))) (enc x) ρ1 ∧ Py (Bk X scope s H C cl fp) iter1 ρ1 (.tup ((l1 x).map enc1))) ∧
      ∀ y ∈ l1 x, ∃ ρ2, ∀ s H C cl fp, PgT (Bk X scope s H C cl fp) tg1 js (dropR ρ1 vs1) (enc1 y) ρ2 ∧ Py (Bk X scope s H C cl fp) elt ρ2 (fu x y))
    (hz : (l.flatMap l1).length ≤ 100000)
    (hs : ∀ x, foldedSetIterable iter X.env x = pure x := by intro _; rfl) (hs1 : ∀ env x, foldedSetIterable iter1 env x = pure x := by intro _ _; rfl) :
    PyL X (.ListComp elt [⟨tg, iter, [], 0⟩, ⟨tg1, iter1, [], 0⟩] scope pos) ρ (l.flatMap fun x => (l1 x).map (fu x)) := by
  refine PyG.of (pe_lc2 (wi1 := iTup X.K (bG X scope iter1)) hc hN pi_c ok hv pg_b pts_b (fun s H C cl fp => pi_tup (pe_b s H C cl fp)) pg_b pts_b pe_b hs hs1) fun σ H C B st => ?_
  refine ⟨ρ, C, B, _, hi, st, fun J H1 s1 io D hD => ?_⟩
  obtain ⟨G, Y, w, hG, hY⟩ := io.ex
  rw [List.length_map] at w hY
  have pre : ∀ i, ((l.take i).flatMap l1).length ≤ 100000 := fun i => by
    refine Nat.le_trans ?_ hz
    have e : l.flatMap l1 = (l.take i).flatMap l1 ++ (l.drop i).flatMap l1 := by rw [← List.flatMap_append, List.take_append_drop]
    rw [e, List.length_append]
    omega
  refine ⟨fun i m H' => m = l.length - i ∧ i ≤ l.length ∧ LcAt X.K H1 D ((l.take i).flatMap l1).length ((l.take i).flatMap fun x => (l1 x).map (fu x)) H', ⟨l.length, by simp, Nat.zero_le _, LcAt.start hD⟩, ?_⟩
  rintro i m H2 ⟨rfl, hil, p⟩
  by_cases hlt : i < l.length
  · refine .inr ⟨w.goes i H2 hlt (hG H2 p.same), fun H' => LcAt X.K H1 D ((l.take (i + 1)).flatMap l1).length ((l.take (i + 1)).flatMap fun x => (l1 x).map (fu x)) H', fun H' p' => ⟨l.length - (i + 1), by omega, rfl, hlt, p'⟩, fun x H3 y => ?_⟩
    obtain ⟨sy, t, ht, im⟩ := hY i H2 x H3 p.same hlt (w.yields i H2 x H3 hlt (hG H2 p.same) y)
    rw [List.getElem?_map] at ht
    have hx : l[i]? = some l[i] := List.getElem?_eq_getElem hlt
    rw [hx] at ht
    obtain rfl : enc l[i] = t := Option.some.inj ht
    obtain ⟨ρ1, tn0, tn, tn1⟩ := turn l[i] (List.getElem_mem hlt)
    have st3 : StR X.K C B σ H3 ρ := st.mono ((s1.trans p.same).trans sy)
    have p3 := p.mono sy
    refine ⟨is, _, C, B, _, ρ1, fun s H C cl fp => (tn s H C cl fp).1, st3.dropR _, im, fun vs hl st4 => ⟨wipe_many his, ρ1, C, B, true, fun s H C cl fp => ts_nil, st4, fun H4 s4 => iteT ?_⟩⟩
    refine ⟨ρ1, C, B, fun _ v H' => ArgOk X.K H' v (.t (.tup ((l1 l[i]).map enc1))), fun s H C cl fp => (tn s H C cl fp).2, st4.mono s4, fun v5 H5 s5 im5 => ?_⟩
    obtain ⟨a, xs, rfl, hsa, hma⟩ := Im.tup_eq im5
    have hla := hma.length
    rw [List.length_map] at hla
    refine ⟨a, rfl, ⟨xs, hsa⟩, ?_⟩
    have p5 := (p3.mono s4).mono s5
    have st5 : StR X.K C B (setMany (wipe σ (own.map (·.2))) is vs) H5 ρ1 := (st4.mono s4).mono s5
    have big := pre (i + 1)
    have e1 : [l[i]].flatMap l1 = l1 l[i] := by simp
    have e2 : [l[i]].flatMap (fun x => (l1 x).map (fu x)) = (l1 l[i]).map (fu l[i]) := by simp
    rw [take_snoc hx, List.flatMap_append, List.length_append, e1] at big
    rw [take_snoc hx, List.flatMap_append, List.length_append, List.flatMap_append, e1, e2]
    have w1 := walk_tup (K := X.K) (a := a) (xs := xs)
    refine ⟨fun j k H' => k = (l1 l[i]).length - j ∧ j ≤ (l1 l[i]).length ∧ TK X.K H5 H' ∧ StR X.K C B (setMany (wipe σ (own.map (·.2))) is vs) H' ρ1 ∧ LcAt X.K H1 D (((l.take i).flatMap l1).length + j) ((l.take i).flatMap (fun x => (l1 x).map (fu x)) ++ ((l1 l[i]).take j).map (fu l[i])) H',
      ⟨(l1 l[i]).length, by simp, Nat.zero_le _, TK.refl, st5, by rw [List.take_zero, List.map_nil, List.append_nil]; exact p5⟩, ?_⟩
    rintro j k H6 ⟨rfl, hjl, s6, st6, p6⟩
    by_cases hj : j < (l1 l[i]).length
    · refine .inr ⟨w1.goes j H6 (by omega) (s6.s _ _ hsa), fun H' => TK X.K H5 H' ∧ StR X.K C B (setMany (wipe σ (own.map (·.2))) is vs) H' ρ1 ∧ LcAt X.K H1 D (((l.take i).flatMap l1).length + (j + 1)) ((l.take i).flatMap (fun x => (l1 x).map (fu x)) ++ ((l1 l[i]).take (j + 1)).map (fu l[i])) H', fun H' p' => ⟨(l1 l[i]).length - (j + 1), by omega, rfl, hj, p'⟩, fun x6 H7 y6 => ?_⟩
      obtain ⟨e7, g7⟩ := w1.yields j H6 x6 H7 (by omega) (s6.s _ _ hsa) y6
      subst e7
      obtain ⟨t7, ht7, im7⟩ := (hma.tk s6).getv g7
      rw [List.getElem?_map] at ht7
      have hx7 : (l1 l[i])[j]? = some (l1 l[i])[j] := List.getElem?_eq_getElem hj
      rw [hx7] at ht7
      obtain rfl : enc1 (l1 l[i])[j] = t7 := Option.some.inj ht7
      obtain ⟨ρ2, tn2⟩ := tn1 _ (List.getElem_mem hj)
      refine ⟨js, _, C, B, _, ρ2, fun s H C cl fp => (tn2 s H C cl fp).1, st6.dropR vs1, im7, fun ws hl7 st8 => ⟨wipe_many hjs, ρ2, C, B, true, fun s H C cl fp => ts_nil, st8, fun H8 s8 => iteT ?_⟩⟩
      refine ⟨ρ2, C, B, fun _ v H' => ArgOk X.K H' v (.t (fu l[i] (l1 l[i])[j])), fun s H C cl fp => (tn2 s H C cl fp).2, st8.mono s8, fun y9 H9 s9 im9 => ?_⟩
      have p9 := (p6.mono s8).mono s9
      obtain ⟨acc, e3, e4, e5⟩ := p9.add hD (by rw [sizeLine_eq]; omega) im9
      have k9 : TK X.K H9 (upd H9 D (.lst (acc ++ [y9]))) := tk_upd (fun xs z => by rw [e3] at z; cases z) fun u xs z => by rw [e3] at z; cases z
      refine ⟨acc, e3, e4, (s6.trans (tk_same (s8.trans s9))).trans k9, ?_, ?_⟩
      · have st9 := st6.mono (s8.trans s9)
        exact st9.poor tn0 (st.base.free (s1.free hD)) k9
      · rw [take_snoc hx7, List.map_append, ← List.append_assoc]
        exact e5
    · have e : j = (l1 l[i]).length := by omega
      subst e
      rw [List.take_length] at p6
      exact .inl ⟨by rw [← hla]; exact w1.stops H6 (s6.s _ _ hsa), p6⟩
  · have e : i = l.length := by omega
    subst e
    rw [List.take_length] at p
    obtain ⟨acc, h1, _, h3⟩ := p.ex
    exact .inl ⟨w.stops H2 (hG H2 p.same), s1.trans p.same, D, acc, rfl, s1.free hD, h1, h3⟩
end
end Nine
set_option maxHeartbeats 4000000
/-! K9E: statements. -/
namespace Nine
open PySem PySem.Spec PyProof.Rows L2

structure De where
  rt : A4 → Prop
  nx : List Sl → Prop := fun _ => False
  ct : List Sl → Prop := fun _ => False
  /-- handed back with the slots as they then are -/
  ru : T → List Sl → Prop := fun _ _ => False
def De.en (D : De) (K : PySem.W.Frag) (C B : Hp) : Ends where
  nx := fun σ H => ∃ ρ, StR K C B σ H ρ ∧ D.nx ρ
  rt := fun v H => (∃ a, Same B H ∧ NewOk K B H v a ∧ D.rt a) ∨ ∃ t σ ρ, StR K C B σ H ρ ∧ Im K H v t ∧ D.ru t ρ
  bk := fun _ _ => False
  ct := fun σ H => ∃ ρ, StR K C B σ H ρ ∧ D.ct ρ
def Ru (X : Cx) (sts : List Stmt) (ρ : List Sl) (D : De) : Prop :=
  ∀ (pins : List (Addr × Obj)) (s : Shared) (σ : L2.St) (H C B : Hp), Inv X pins σ H s → StR X.K C B σ H ρ → wpAny (model X.prog X.w) X.A (execs sts X.env) (SP X pins (D.en X.K C B)) X.xe s
def tRu (X : Cx) (sts : List Stmt) : TS := fun D σ H => ∃ ρ C B Dd, Ru X sts ρ Dd ∧ StR X.K C B σ H ρ ∧ (∀ σ' H', (Dd.en X.K C B).nx σ' H' → D.nx σ' H') ∧ (∀ v H', (Dd.en X.K C B).rt v H' → D.rt v H') ∧ ∀ σ' H', (Dd.en X.K C B).ct σ' H' → D.ct σ' H'
section
variable {X : Cx} {e a b c tg iter : Expr} {es : List Expr} {ρ : List Sl} {pos p' : Pos} {st : Stmt} {rest body : List Stmt} {D : De}
theorem pss_ru : PSs X rest (tRu X rest) := ⟨fun pins s σ H D I h => by
  obtain ⟨ρ, C, B, Dd, g, r, k1, k2, k3⟩ := h
  refine thn (g pins s σ H C B I r) fun f s' q => ?_
  cases f with
  | next => obtain ⟨σ', H', I', q⟩ := q; exact ⟨σ', H', I', k1 _ _ q⟩
  | brk => obtain ⟨σ', H', I', q⟩ := q; exact q.elim
  | cont => obtain ⟨σ', H', I', q⟩ := q; exact ⟨σ', H', I', k3 _ _ q⟩
  | ret u => obtain ⟨v, σ', H', I', rv, q⟩ := q; exact ⟨v, σ', H', I', rv, k2 _ _ q⟩⟩
theorem ru_use {σ : L2.St} {H C B : Hp} (g : Ru X rest ρ D) (r : StR X.K C B σ H ρ) : tRu X rest (D.en X.K C B) σ H := ⟨ρ, C, B, D, g, r, fun _ _ h => h, fun _ _ h => h, fun _ _ h => h⟩
theorem Ru.of {t : TS} (h : PSs X rest t) (y : ∀ σ H C B, StR X.K C B σ H ρ → t (D.en X.K C B) σ H) : Ru X rest ρ D := fun pins s σ H C B I r => h.run pins s σ H _ I (y σ H C B r)
theorem ru_end (h : D.nx ρ) : Ru X [] ρ D := Ru.of pss_nil fun σ H C B r => ⟨ρ, r, h⟩

/-! ### storing names -/
def slA : A4 → Sl
  | .t t => .val t
  | .s ts => .own ts
  | .d kvs => .dic kvs
theorem put_ok {K : PySem.W.Frag} {C B H : Hp} {v : V} : ∀ {x : A4}, NewOk K B H v x → SlOk K C B H (some v) (slA x)
  | .t t, h => ⟨v, rfl, h⟩
  | .s ts, ⟨p, xs, e, n, h, m⟩ => ⟨p, xs, by rw [e], n, h, m⟩
  | .d kvs, ⟨p, xs, e, n, h, m⟩ => ⟨p, xs, by rw [e], n, h, m⟩
theorem StR.put {K : PySem.W.Frag} {C B H : Hp} {σ : L2.St} {i : Nat} {v : V} {x : A4} (r : StR K C B σ H ρ) (h : NewOk K B H v x) (hn : (slA x).mine = true → ∀ p, v = .ref p → ¬ OwnAt σ ρ p) : StR K C B (σ.set i (some v)) H (ρ.set i (slA x)) :=
  r.set (put_ok h) fun m j b hb mb _ z => by
    have : ∃ p, v = .ref p := by
      cases x with
      | t t => cases m
      | s ts => obtain ⟨p, _, e, _⟩ := h; exact ⟨p, e⟩
      | d ts => obtain ⟨p, _, e, _⟩ := h; exact ⟨p, e⟩
    obtain ⟨p, e⟩ := this
    exact hn m p e ⟨j, b, hb, mb, by rw [z, e]⟩
theorem new_no {K : PySem.W.Frag} {C B H H1 : Hp} {σ : L2.St} {v : V} {x : A4} (r : StR K C B σ H ρ) (h : NewOk K H H1 v x) : (slA x).mine = true → ∀ p, v = .ref p → ¬ OwnAt σ ρ p := fun m p e z => by
  have := (r.own_none z).2.2.2
  cases x with
  | t t => cases m
  | s ts => obtain ⟨q, _, e2, n, _⟩ := h; rw [e] at e2; cases e2; exact this n
  | d ts => obtain ⟨q, _, e2, n, _⟩ := h; rw [e] at e2; cases e2; exact this n
theorem own_set {σ : L2.St} {i : Nat} {v : V} {x : Sl} {p : Addr} (h : OwnAt (σ.set i (some v)) (ρ.set i x) p) : OwnAt σ ρ p ∨ (x.mine = true ∧ v = .ref p) := by
  obtain ⟨j, b, hb, mb, e⟩ := h
  by_cases z : i = j
  · subst z
    by_cases hi : i < ρ.length
    · rw [List.getElem?_set_self hi] at hb
      cases hb
      rw [join_set] at e
      by_cases hs : i = i ∧ i < σ.length
      · rw [if_pos hs] at e
        exact .inr ⟨mb, Option.some.inj e⟩
      · rw [if_neg hs, List.getElem?_eq_none (by have := hs; omega)] at e
        cases e
    · rw [List.getElem?_eq_none (by rw [List.length_set]; omega)] at hb
      cases hb
  · rw [List.getElem?_set_ne z] at hb
    rw [join_set, if_neg (fun q => z q.1)] at e
    exact .inl ⟨j, b, hb, mb, e⟩
theorem new_no2 {K : PySem.W.Frag} {C B H H1 H2 : Hp} {σ : L2.St} {i : Nat} {v w : V} {x y : A4} (r : StR K C B σ H ρ) (s1 : Same H H1) (h1 : NewOk K H H1 v x) (h2 : NewOk K H1 H2 w y) : (slA y).mine = true → ∀ p, w = .ref p → ¬ OwnAt (σ.set i (some v)) (ρ.set i (slA x)) p := fun m p e z => by
  rcases own_set z with z | ⟨mx, ev⟩
  · exact new_no (r.mono s1) h2 m p e z
  · have n : H1 p ≠ none := by
      cases x with
      | t t => cases mx
      | s ts => obtain ⟨q, _, e2, _, k, _⟩ := h1; rw [ev] at e2; cases e2; rw [k]; exact fun z => nomatch z
      | d ts => obtain ⟨q, _, e2, _, k, _⟩ := h1; rw [ev] at e2; cases e2; rw [k]; exact fun z => nomatch z
    cases y with
    | t t => cases m
    | s ts => obtain ⟨q, _, e2, k, _⟩ := h2; rw [e] at e2; cases e2; exact n k
    | d ts => obtain ⟨q, _, e2, k, _⟩ := h2; rw [e] at e2; cases e2; exact n k
/-- x = e -/
theorem ru_set (i : Nat) {x : Str} {y : A4} (hN : X.N.Nodup) (he : PyN X e ρ y) (k : Ru X rest (ρ.set i (slA y)) D) (hi : X.N[i]? = some x := by rfl) (hx : Loc X.env.scope x := by first | exact Or.inl rfl | exact Or.inr rfl)
    (hf : X.fn x = true ∨ X.env.scope.names.lookup x = some .local := by first | exact .inl rfl | exact .inr rfl) (hs : swapsWith e (some (.Name x p')) pos.line X.env = pure false := by rfl) : Ru X (.Assign [.Name x p'] e pos :: rest) ρ D :=
  Ru.of (pss_cons (ps_set hN hi hx pe_g hs hf) pss_ru) fun σ H C B st => g_use he st fun v H1 s1 q1 => ru_use k ((st.mono s1).put (q1.down st.base) (new_no st q1))
/-- x = [.. for ..] on one line -/
theorem ru_setLc {α : Type} (i : Nat) {x : Str} {elt tg iter : Expr} {ifs : List Expr} {scope : Scope} {own : List (Str × Nat)} {cpos : Pos} (l : List α) (enc : α → T) (fb : α → Bool) (fu : α → T) (is : List Nat) (hc : X.calm = true) (hN : X.N.Nodup)
    (hi : PiC X tg iter ρ (l.map enc)) (ok : BlkOk X.N X.env.scope scope own) (his : ∀ i ∈ is, i ∈ own.map (·.2))
    (turn : ∀ x ∈ l, ∃ ρ1, ∀ s H C cl fp, Tn (Bk X scope s H C cl fp) tg is (dropR ρ (own.map (·.2))) (enc x) ρ1 ifs (fb x) ∧ (fb x = true → Py (Bk X scope s H C cl fp) elt ρ1 (fu x)))
    (k : Ru X rest (ρ.set i (.own ((l.filter fb).map fu))) D) (hy : X.N[i]? = some x := by rfl) (hyl : X.env.scope.names.lookup x = some .local := by rfl)
    (hsw : swapsWith (.ListComp elt [⟨tg, iter, ifs, 0⟩] scope cpos) (some (.Name x p')) pos.line X.env = pure true := by exact sw_true rfl rfl rfl (by decide +kernel)) (hs : ∀ x, foldedSetIterable iter X.env x = pure x := by intro _; rfl) :
    Ru X (.Assign [.Name x p'] (.ListComp elt [⟨tg, iter, ifs, 0⟩] scope cpos) pos :: rest) ρ D :=
  Ru.of (pss_cons (ps_setLc hc hN hy hyl hsw pi_c ok pg_b pts_b pe_b hs) pss_ru) fun σ H C B st =>
    lc_read (Q := fun v H1 => gName i v σ H1 _) hi his turn st fun v H1 s1 q1 => ru_use k ((st.mono s1).put (x := .s _) (NewOk.down st.base q1) (new_no st q1))
/-- x = y, ones own thing given on -/
theorem ru_move (i j : Nat) {x y : Str} {ts : List T} {p2 : Pos} (hN : X.N.Nodup) (hij : i ≠ j) (hj : ρ[j]? = some (.own ts)) (k : Ru X rest ((ρ.set j .no).set i (.own ts)) D) (hi : X.N[i]? = some x := by rfl) (hx : Loc X.env.scope x := by first | exact Or.inl rfl | exact Or.inr rfl)
    (hf : X.fn x = true ∨ X.env.scope.names.lookup x = some .local := by first | exact .inl rfl | exact .inr rfl) (hs : swapsWith (.Name y p2) (some (.Name x p')) pos.line X.env = pure false := by rfl)
    (hNj : X.N[j]? = some y := by rfl) (hv : Vis X.env.scope y := by first | exact Or.inl rfl | exact Or.inr (Or.inl rfl) | exact Or.inr (Or.inr rfl)) (hd : (y == ("__debug__" : Str)) = false := by decide) (hcd : (y == ("__classdict__" : Str)) = false := by decide) : Ru X (.Assign [.Name x p'] (.Name y p2) pos :: rest) ρ D :=
  Ru.of (pss_cons (ps_set hN hi hx (pe_var hNj hv hd hcd) hs hf) pss_ru) fun σ H C B st => by
    obtain ⟨p, xs, e, n, e2, m⟩ := st.slots j _ hj
    refine ⟨.ref p, join_some e, ru_use k ?_⟩
    have st1 : StR X.K C B σ H (ρ.set j .no) := st.forget
    refine st1.set (a := .own ts) ⟨p, xs, rfl, n, e2, m⟩ fun _ l b hb mb hl z => ?_
    by_cases hlj : j = l
    · subst hlj
      have hlt : j < ρ.length := (List.getElem?_eq_some_iff.mp hj).1
      rw [List.getElem?_set_self hlt] at hb
      cases hb
      cases mb
    · rw [List.getElem?_set_ne hlj] at hb
      exact st.apart j l _ b hlj hj hb rfl mb (by rw [e, z])
/-- a, b = e1, e2, both plain locals -/
theorem ru_par (i j : Nat) {x y : Str} {u w : A4} {px py pt : Pos} {kt k2 pt2} (hc : X.calm = true) (hN : X.N.Nodup) (hij : i ≠ j) (h1 : PyN X a ρ u) (h2 : PyN X b ρ w) (k : Ru X rest ((ρ.set i (slA u)).set j (slA w)) D)
    (hi : X.N[i]? = some x := by rfl) (hj : X.N[j]? = some y := by rfl) (hx : X.env.scope.names.lookup x = some .local := by rfl) (hy : X.env.scope.names.lookup y = some .local := by rfl)
    (hw : swappedStores [.Tuple [.Name x px, .Name y py] kt pt] (.Tuple [a, b] k2 pt2) X.env = pure (some [x, y]) := by rfl)
    (hs : swapsWithSole [.Tuple [.Name x px, .Name y py] kt pt] (.Tuple [a, b] k2 pt2) pos.line X.env = pure false := by rfl)
    (e1 : starEach [a, b] X.env = (false, eval a X.env) :: starEach [b] X.env := by rfl) (e2 : starEach [b] X.env = (false, eval b X.env) :: starEach [] X.env := by rfl) :
    Ru X (.Assign [.Tuple [.Name x px, .Name y py] kt pt] (.Tuple [a, b] k2 pt2) pos :: rest) ρ D :=
  Ru.of (pss_cons (ps_par hc hN hi hj hij hx hy (pa_cons pe_g (pa_cons pe_g pa_nil e2) e1) hw hs) pss_ru) fun σ H C B st => g_use h1 st fun v H1 s1 q1 => g_use h2 (st.mono s1) fun v2 H2 s2 q2 =>
    ⟨v, v2, rfl, ru_use k ((((st.mono s1).mono s2).put ((q1.down st.base).mono s2) (new_no st q1)).put (q2.down (st.base.trans s1)) (new_no2 st s1 q1 q2))⟩
/-- the same where not both are plain locals: by a tuple -/
theorem ru_par2 (i j : Nat) {x y : Str} {u w : A4} {px py pt : Pos} {kt k2 pt2} (hc : X.calm = true) (hN : X.N.Nodup) (hij : i ≠ j) (h1 : PyN X a ρ u) (h2 : PyN X b ρ w) (k : Ru X rest ((ρ.set i (slA u)).set j (slA w)) D)
    (hi : X.N[i]? = some x := by rfl) (hj : X.N[j]? = some y := by rfl) (hx : Loc X.env.scope x := by first | exact Or.inl rfl | exact Or.inr rfl) (hy : Loc X.env.scope y := by first | exact Or.inl rfl | exact Or.inr rfl)
    (hf : X.fn x = true ∨ X.env.scope.names.lookup x = some .local := by first | exact .inl rfl | exact .inr rfl) (hf2 : X.fn y = true ∨ X.env.scope.names.lookup y = some .local := by first | exact .inl rfl | exact .inr rfl)
    (hw : swappedStores [.Tuple [.Name x px, .Name y py] kt pt] (.Tuple [a, b] k2 pt2) X.env = pure none := by rfl)
    (hs : swapsWithSole [.Tuple [.Name x px, .Name y py] kt pt] (.Tuple [a, b] k2 pt2) pos.line X.env = pure false := by rfl)
    (e1 : starEach [a, b] X.env = (false, eval a X.env) :: starEach [b] X.env := by rfl) (e2 : starEach [b] X.env = (false, eval b X.env) :: starEach [] X.env := by rfl) :
    Ru X (.Assign [.Tuple [.Name x px, .Name y py] kt pt] (.Tuple [a, b] k2 pt2) pos :: rest) ρ D :=
  Ru.of (pss_cons (ps_asg (pe_tup (pa_cons pe_g (pa_cons pe_g pa_nil e2) e1)) (pg_tup hc (pgs_cons (pg_name hN hi hx hf) (pgs_cons (pg_name hN hj hy hf2) pgs_nil))) hs hw) pss_ru) fun σ H C B st => g_use h1 st fun v H1 s1 q1 => g_use h2 (st.mono s1) fun v2 H2 s2 q2 => by
    refine ⟨by show 2 ≤ sizeLine; decide, fun q hq => ⟨q, [v, v2], rfl, SqT.of upd_same, rfl, v, [v2], rfl, v2, [], rfl, rfl, ?_⟩⟩
    have sn : Same H2 (upd H2 q (.tup [v, v2])) := same_new hq
    exact ru_use k (((((st.mono s1).mono s2).mono sn).put (((q1.down st.base).mono s2).mono sn) (new_no st q1)).put ((q2.down (st.base.trans s1)).mono sn) (new_no2 st s1 q1 q2))
/-- a, b, c = e1, e2, e3, by a tuple -/
theorem ru_par3 (i j l : Nat) {x y z : Str} {u w y3 : A4} {px py pz pt : Pos} {kt k2 pt2} (hc : X.calm = true) (hN : X.N.Nodup) (h1 : PyN X a ρ u) (h2 : PyN X b ρ w) (h3 : PyN X c ρ y3) (k : Ru X rest (((ρ.set i (slA u)).set j (slA w)).set l (slA y3)) D)
    (hone : (slA u).mine = false ∧ (slA y3).mine = false) (hi : X.N[i]? = some x := by rfl) (hj : X.N[j]? = some y := by rfl) (hl : X.N[l]? = some z := by rfl) (hx : Loc X.env.scope x := by first | exact Or.inl rfl | exact Or.inr rfl) (hy : Loc X.env.scope y := by first | exact Or.inl rfl | exact Or.inr rfl) (hz : Loc X.env.scope z := by first | exact Or.inl rfl | exact Or.inr rfl)
    (hf : X.fn x = true ∨ X.env.scope.names.lookup x = some .local := by first | exact .inl rfl | exact .inr rfl) (hf2 : X.fn y = true ∨ X.env.scope.names.lookup y = some .local := by first | exact .inl rfl | exact .inr rfl) (hf3 : X.fn z = true ∨ X.env.scope.names.lookup z = some .local := by first | exact .inl rfl | exact .inr rfl)
    (hw : swappedStores [.Tuple [.Name x px, .Name y py, .Name z pz] kt pt] (.Tuple [a, b, c] k2 pt2) X.env = pure none := by rfl)
    (hs : swapsWithSole [.Tuple [.Name x px, .Name y py, .Name z pz] kt pt] (.Tuple [a, b, c] k2 pt2) pos.line X.env = pure false := by rfl)
    (e1 : starEach [a, b, c] X.env = (false, eval a X.env) :: starEach [b, c] X.env := by rfl) (e2 : starEach [b, c] X.env = (false, eval b X.env) :: starEach [c] X.env := by rfl) (e3 : starEach [c] X.env = (false, eval c X.env) :: starEach [] X.env := by rfl) :
    Ru X (.Assign [.Tuple [.Name x px, .Name y py, .Name z pz] kt pt] (.Tuple [a, b, c] k2 pt2) pos :: rest) ρ D :=
  Ru.of (pss_cons (ps_asg (pe_tup (pa_cons pe_g (pa_cons pe_g (pa_cons pe_g pa_nil e3) e2) e1)) (pg_tup hc (pgs_cons (pg_name hN hi hx hf) (pgs_cons (pg_name hN hj hy hf2) (pgs_cons (pg_name hN hl hz hf3) pgs_nil)))) hs hw) pss_ru) fun σ H C B st => g_use h1 st fun v H1 s1 q1 => g_use h2 (st.mono s1) fun v2 H2 s2 q2 => g_use h3 (st.mono (s1.trans s2)) fun v3 H3 s3 q3 => by
    refine ⟨by show 3 ≤ sizeLine; decide, fun q hq => ⟨q, [v, v2, v3], rfl, SqT.of upd_same, rfl, v, [v2, v3], rfl, v2, [v3], rfl, v3, [], rfl, rfl, ?_⟩⟩
    have sn : Same H3 (upd H3 q (.tup [v, v2, v3])) := same_new hq
    refine ru_use k ?_
    refine StR.put (StR.put (StR.put ((((st.mono s1).mono s2).mono s3).mono sn) ((((q1.down st.base).mono s2).mono s3).mono sn) (new_no st q1)) (((q2.down (st.base.trans s1)).mono s3).mono sn) (new_no2 st s1 q1 q2)) ((q3.down ((st.base.trans s1).trans s2)).mono sn) fun m => ?_
    rw [hone.2] at m
    cases m
/-- a, b, .. = a tuple -/
theorem ru_unt {is : List Nat} {ts : List T} {ρ1 : List Sl} {ns : List Expr} {kt : Nat} {pt : Pos} (hc : X.calm = true) (he : Py X e ρ (.tup ts)) (hg : PgsT X ns is ρ ts ρ1) (k : Ru X rest ρ1 D) (hn : (assignEach ns X.env).length = ts.length := by rfl) (hst : (assignEach ns X.env).findIdx? (·.1) = none := by rfl)
    (hs : swapsWithSole [.Tuple ns kt pt] e pos.line X.env = pure false := by rfl) (hw : swappedStores [.Tuple ns kt pt] e X.env = pure none := by rfl) : Ru X (.Assign [.Tuple ns kt pt] e pos :: rest) ρ D :=
  Ru.of (pss_cons (ps_asg pe_g pg_g hs hw) pss_ru) fun σ H C B st => g_use he st fun v H1 s1 q1 => ⟨is, ρ, C, B, _, ρ1, g_tup hc hg hn hst, st.mono s1, q1, fun vs hl st2 => ru_use k st2⟩

/-! ### ones own lists and dicts -/
theorem lst_ty {K : PySem.W.Frag} {H : Hp} {p : Addr} {xs : List V} (h : H p = some (.lst xs)) : tyV K "list" (.ref p) H := Or.inl ⟨rfl, _, SqL.of h⟩
/-- x.append(e) -/
theorem ru_append (i : Nat) {x : Str} {ts : List T} {t : T} {px pa_ pc : Pos} (hi : ρ[i]? = some (.own ts)) (he : Py X e ρ t) (k : Ru X rest (ρ.set i (.own (ts ++ [t]))) D) (hl : ts.length < 100000) (hN : X.N[i]? = some x := by rfl)
    (hv : Vis X.env.scope x := by first | exact Or.inl rfl | exact Or.inr (Or.inl rfl) | exact Or.inr (Or.inr rfl)) (hd : (x == ("__debug__" : Str)) = false := by decide) (hcd : (x == ("__classdict__" : Str)) = false := by decide)
    (e1 : starEach [e] X.env = (false, eval e X.env) :: starEach [] X.env := by rfl) (hb : attributeBase (.Name x px) "append" X.env (eval (.Name x px) X.env) = eval (.Name x px) X.env := by rfl)
    (hpe : PE X (.Call (.Attribute (.Name x px) "append" pa_) [e] [] pc) (tBM X.K "list" rAppend (tVar i) (tCons (tG X e) tNil)) := by exact pe_bm PySem.F.plainAttrs_list PySem.F.slot_list_append PySem.F.type_list_append mt_append (pv _) (pa_cons pe_g pa_nil))
    (hsw : swapsWith (.Call (.Attribute (.Name x px) "append" pa_) [e] [] pc) none pos.line X.env = pure false := by rfl) :
    Ru X (.Expr (.Call (.Attribute (.Name x px) "append" pa_) [e] [] pc) pos :: rest) ρ D :=
  Ru.of (pss_cons (ps_expr hpe hsw) pss_ru) fun σ H C B st => by
    obtain ⟨p, xs, ep, n, e2, m⟩ := st.slots i _ hi
    refine ⟨.ref p, join_some ep, lst_ty e2, g_use he st fun v H1 s1 q1 => ?_⟩
    have m1 := m.mono s1
    refine ⟨p, xs, v, rfl, rfl, s1 _ _ e2, by rw [m.length, sizeLine_eq]; omega, ru_use k ?_⟩
    exact (st.mono s1).write hi rfl ep fun tk => ⟨p, _, rfl, n, upd_same, (m1.append (.one q1)).tk tk⟩
/-- x.extend(a new list) -/
theorem ru_extend (i : Nat) {x : Str} {ts us : List T} {px pa_ pc : Pos} (hi : ρ[i]? = some (.own ts)) (he : PyL X e ρ us) (k : Ru X rest (ρ.set i (.own (ts ++ us))) D) (hl : ts.length + us.length ≤ 100000) (hN : X.N[i]? = some x := by rfl)
    (hv : Vis X.env.scope x := by first | exact Or.inl rfl | exact Or.inr (Or.inl rfl) | exact Or.inr (Or.inr rfl))
    (hpe : PE X (.Call (.Attribute (.Name x px) "extend" pa_) [e] [] pc) (tBM X.K "list" rExtend (tVar i) (tCons (tG X e) tNil)) := by exact pe_bm PySem.F.plainAttrs_list PySem.F.slot_list_extend PySem.F.type_list_extend mt_extend (pv _) (pa_cons pe_g pa_nil))
    (hsw : swapsWith (.Call (.Attribute (.Name x px) "extend" pa_) [e] [] pc) none pos.line X.env = pure false := by rfl) :
    Ru X (.Expr (.Call (.Attribute (.Name x px) "extend" pa_) [e] [] pc) pos :: rest) ρ D :=
  Ru.of (pss_cons (ps_expr hpe hsw) pss_ru) fun σ H C B st => by
    obtain ⟨p, xs, ep, n, e2, m⟩ := st.slots i _ hi
    refine ⟨.ref p, join_some ep, lst_ty e2, g_use he st fun v H1 s1 q1 => ?_⟩
    obtain ⟨q, ys, rfl, _, e3, m3⟩ := q1
    have m1 := m.mono s1
    refine ⟨p, q, xs, ys, rfl, rfl, s1 _ _ e2, e3, by rw [m.length, m3.length, sizeLine_eq]; omega, ru_use k ?_⟩
    exact (st.mono s1).write hi rfl ep fun tk => ⟨p, _, rfl, n, upd_same, (m1.append m3).tk tk⟩
/-- x[k] = e, a dict -/
theorem ru_dput (i : Nat) {x : Str} {kvs : List (Str × T)} {k : Str} {t : T} {ke : Expr} {px : Pos} (hu : X.A.units + 1 < cLine) (hi : ρ[i]? = some (.dic kvs)) (he : Py X e ρ t) (hk : Py X ke ρ (.str k)) (q : Ru X rest (ρ.set i (.dic (dPut kvs k t))) D) (hl : kvs.length < 100000) (hN : X.N[i]? = some x := by rfl)
    (hv : Vis X.env.scope x := by first | exact Or.inl rfl | exact Or.inr (Or.inl rfl) | exact Or.inr (Or.inr rfl)) (hd : (x == ("__debug__" : Str)) = false := by decide) (hcd : (x == ("__classdict__" : Str)) = false := by decide)
    (hs : swapsWith e (some (.Subscript (.Name x px) ke p')) pos.line X.env = pure false := by rfl) : Ru X (.Assign [.Subscript (.Name x px) ke p'] e pos :: rest) ρ D :=
  Ru.of (pss_cons (ps_dput hu (pe_var hN hv hd hcd) pe_g pe_g hs) pss_ru) fun σ H C B st => g_use he st fun v H1 s1 q1 => by
    obtain ⟨p, ks, ep, n, e2, m⟩ := st.slots i _ hi
    refine ⟨.ref p, join_some ep, g_use hk (st.mono s1) fun w H2 s2 q2 => ?_⟩
    have e3 := s2 _ _ (s1 _ _ e2)
    refine ⟨p, L2.upd H2 p (.dK (putK ks (.inr k) v)), rfl, ?_, ru_use q ?_⟩
    · rw [Im.str_eq q2]
      exact DPut.k (k := (.inr k : Key)) e3 (by rw [m.length, sizeLine_eq]; omega)
    · exact (st.mono (s1.trans s2)).write hi rfl ep fun tk => ⟨p, _, rfl, n, upd_same, ((m.tk (tk_same (s1.trans s2))).put (Im.mono s2 q1)).tk tk⟩
/-- x[i] = e, a list -/
theorem ru_lput (i : Nat) {x : Str} {ts : List T} {n : Int} {j : Nat} {t : T} {ke : Expr} {px : Pos} (hi : ρ[i]? = some (.own ts)) (he : Py X e ρ t) (hk : Py X ke ρ (.int n)) (hj : ixN ts.length n = some j) (q : Ru X rest (ρ.set i (.own (ts.set j t))) D) (hN : X.N[i]? = some x := by rfl)
    (hv : Vis X.env.scope x := by first | exact Or.inl rfl | exact Or.inr (Or.inl rfl) | exact Or.inr (Or.inr rfl)) (hd : (x == ("__debug__" : Str)) = false := by decide) (hcd : (x == ("__classdict__" : Str)) = false := by decide)
    (hps : PS X (.Assign [.Subscript (.Name x px) ke p'] e pos) (tAsg (tG X e) (gSub (tVar i) (tG X ke) rSetL)) := by exact ps_asg pe_g (pg_sub (pv _) pe_g set_list)) : Ru X (.Assign [.Subscript (.Name x px) ke p'] e pos :: rest) ρ D :=
  Ru.of (pss_cons hps pss_ru) fun σ H C B st => g_use he st fun v H1 s1 q1 => by
    obtain ⟨p, xs, ep, n, e2, m⟩ := st.slots i _ hi
    refine ⟨.ref p, join_some ep, g_use hk (st.mono s1) fun w H2 s2 q2 => ?_⟩
    have e3 := s2 _ _ (s1 _ _ e2)
    refine ⟨p, xs, _, j, rfl, Im.int_eq q2, e3, by rw [m.length]; exact hj, ru_use q ?_⟩
    exact (st.mono (s1.trans s2)).write hi rfl ep fun tk => ⟨p, _, rfl, n, upd_same, ((m.mono (s1.trans s2)).set j (Im.mono s2 q1)).tk tk⟩

/-- a call alone -/
theorem ru_call {R : Hp → V → Hp → Prop} (he : PyG X e ρ R) (k : Ru X rest ρ D) (hs : swapsWith e none pos.line X.env = pure false := by rfl) : Ru X (.Expr e pos :: rest) ρ D :=
  Ru.of (pss_cons (ps_expr pe_g hs) pss_ru) fun σ H C B st => g_use he st fun v H1 s1 q1 => ru_use k (st.mono s1)
/-! ### return, if -/
theorem ru_ret {x : A4} (he : PyN X e ρ x) (k : D.rt x) : Ru X (.Return (some e) pos :: rest) ρ D :=
  Ru.of (pss_cons (ps_ret pe_g) pss_never) fun σ H C B st => g_use he st fun v H1 s1 q1 => .inl ⟨x, st.base.trans s1, q1.down st.base, k⟩
theorem ru_retOwn (i : Nat) {x : Str} {ts : List T} {px : Pos} (hi : ρ[i]? = some (.own ts)) (k : D.rt (.s ts)) (hN : X.N[i]? = some x := by rfl)
    (hv : Vis X.env.scope x := by first | exact Or.inl rfl | exact Or.inr (Or.inl rfl) | exact Or.inr (Or.inr rfl)) (hd : (x == ("__debug__" : Str)) = false := by decide) (hcd : (x == ("__classdict__" : Str)) = false := by decide) : Ru X (.Return (some (.Name x px)) pos :: rest) ρ D :=
  Ru.of (pss_cons (ps_ret (pe_var hN hv hd hcd)) pss_never) fun σ H C B st => by
    obtain ⟨p, xs, ep, n, e2, m⟩ := st.slots i _ hi
    exact ⟨.ref p, join_some ep, .inl ⟨.s ts, st.base, ⟨p, xs, rfl, n, e2, m⟩, k⟩⟩
theorem ru_retDic (i : Nat) {x : Str} {kvs : List (Str × T)} {px : Pos} (hi : ρ[i]? = some (.dic kvs)) (k : D.rt (.d kvs)) (hN : X.N[i]? = some x := by rfl)
    (hv : Vis X.env.scope x := by first | exact Or.inl rfl | exact Or.inr (Or.inl rfl) | exact Or.inr (Or.inr rfl)) (hd : (x == ("__debug__" : Str)) = false := by decide) (hcd : (x == ("__classdict__" : Str)) = false := by decide) : Ru X (.Return (some (.Name x px)) pos :: rest) ρ D :=
  Ru.of (pss_cons (ps_ret (pe_var hN hv hd hcd)) pss_never) fun σ H C B st => by
    obtain ⟨p, xs, ep, n, e2, m⟩ := st.slots i _ hi
    exact ⟨.ref p, join_some ep, .inl ⟨.d kvs, st.base, ⟨p, xs, rfl, n, e2, m⟩, k⟩⟩
theorem ru_if {k : Bool} {s1 s2 : List Stmt} (hc : Pt X c ρ k) (h1 : k = true → Ru X s1 ρ { D with nx := fun ρ' => Ru X rest ρ' D }) (h2 : k = false → Ru X s2 ρ { D with nx := fun ρ' => Ru X rest ρ' D }) : Ru X (.If c s1 s2 pos :: rest) ρ D :=
  Ru.of (pss_cons (ps_if pt_g pss_ru pss_ru) pss_ru) fun σ H C B st => gt_use hc st fun H1 s1 => by
    have fin : ∀ {σ' : L2.St} {H' : Hp}, (De.en { D with nx := fun ρ' => Ru X rest ρ' D } X.K C B).nx σ' H' → tRu X rest (D.en X.K C B) σ' H' := fun ⟨ρ', st', g⟩ => ru_use g st'
    cases k with
    | true => exact iteT ⟨ρ, C, B, _, h1 rfl, st.mono s1, fun _ _ h => fin h, fun _ _ h => h, fun _ _ h => h⟩
    | false => exact iteF ⟨ρ, C, B, _, h2 rfl, st.mono s1, fun _ _ h => fin h, fun _ _ h => h, fun _ _ h => h⟩
/-- if: .. without an else that is not taken; a raise that isn't reached -/
theorem ru_skip {s1 : List Stmt} (hc : Pt X c ρ false) (h2 : Ru X rest ρ D) : Ru X (.If c s1 [] pos :: rest) ρ D :=
  ru_if hc (fun z => nomatch z) fun _ => ru_end h2
theorem ru_weak {D' : De} (h : Ru X rest ρ D') (h1 : ∀ a, D'.rt a → D.rt a) (h2 : ∀ r, D'.nx r → D.nx r) (h3 : ∀ r, D'.ct r → D.ct r) (h4 : ∀ t r, D'.ru t r → D.ru t r := by exact fun _ _ z => z) : Ru X rest ρ D :=
  Ru.of pss_ru fun σ H C B st => ⟨ρ, C, B, D', h, st, fun _ _ ⟨r, a, b⟩ => ⟨r, a, h2 r b⟩, fun _ _ y => y.elim (fun ⟨r, a, b, c⟩ => .inl ⟨r, a, b, h1 r c⟩) fun ⟨t, σ2, r, a, b, c⟩ => .inr ⟨t, σ2, r, a, b, h4 t r c⟩, fun _ _ ⟨r, a, b⟩ => ⟨r, a, h3 r b⟩⟩
/-- slots forgotten -/
theorem ru_forget (i : Nat) (h : Ru X rest (ρ.set i .no) D) : Ru X rest ρ D := Ru.of pss_ru fun σ H C B st => ru_use h st.forget

/-! ### for -/
theorem en_down {K : PySem.W.Frag} {C B B' : Hp} (e : Same B B') {v : V} {H : Hp} (h : (De.en { D with ru := fun _ _ => False } K C B').rt v H) : (D.en K C B).rt v H := by
  rcases h with ⟨a, s, n, d⟩ | ⟨t, σ, ρ, _, _, z⟩
  · exact .inl ⟨a, e.trans s, n.down e, d⟩
  · exact z.elim
/-- the loop over any walk: Pv by the turn and the slots -/
theorem ru_for {ts : List T} (hc : X.calm = true) (hi : PiI X tg iter ρ ts) (Pv : Nat → List Sl → Prop) (h0 : Pv 0 ρ) (turn : ∀ i t ρ, ts[i]? = some t → Pv i ρ → ∃ is ρ1, PgT X tg is ρ t ρ1 ∧ Ru X body ρ1 { D with nx := Pv (i + 1), ct := Pv (i + 1), ru := fun _ _ => False })
    (fin : ∀ ρ, Pv ts.length ρ → Ru X rest (ρ.map Sl.unrb) D) (hp : PassesOwn (model X.prog X.w) X.A X.env X.xe := by exact PassesOwn.never) (hs : ∀ x, foldedSetIterable iter X.env x = pure x := by intro _; rfl) : Ru X (.For tg iter body [] pos :: rest) ρ D :=
  Ru.of (pss_cons (ps_for hp hc pi_g pg_g pss_ru hs) pss_ru) fun σ H C B st => by
    refine ⟨ρ, C, B, ts, hi, st, fun J H1 s1 io => ?_⟩
    obtain ⟨G, Y, w, hG, hY⟩ := io.ex
    have st1 := st.mono s1
    have cb : Same B (calm σ ρ H1) := st1.calm_b
    refine for_it w (fun i σ2 H2 => ∃ ρ2, StR X.K C (calm σ ρ H1) σ2 H2 ρ2 ∧ Pv i ρ2) ⟨ρ, st1.calm, h0⟩ (fun i σ2 H2 _ p => ?_) (fun i x σ2 H2 H3 hil p y => ?_) fun σ2 H2 p => ?_
    · obtain ⟨ρ2, st2, _⟩ := p
      exact hG H2 st2.base
    · obtain ⟨ρ2, st2, pv⟩ := p
      obtain ⟨sy, t, ht, im⟩ := hY i H2 x H3 st2.base hil y
      obtain ⟨is, ρ3, g, b⟩ := turn i t ρ2 ht pv
      refine ⟨is, ρ2, C, calm σ ρ H1, t, ρ3, g, st2.mono sy, im, fun vs hl st3 => ⟨ρ3, C, calm σ ρ H1, _, b, st3, fun σ' H' h => h, fun v H' h => en_down (C := C) cb h, fun σ' H' h => h⟩⟩
    · obtain ⟨ρ2, st2, pv⟩ := p
      exact ru_use (fin ρ2 pv) (st2.down st.cb cb)
/-- a loop as a fold -/
theorem ru_fold {α β : Type} (l : List α) (enc : α → T) (f : β → α → β) (b0 : β) (en : β → List Sl) (hc : X.calm = true) (hρ : ρ = en b0) (hi : PiI X tg iter (en b0) (l.map enc))
    (turn : ∀ i x b, l[i]? = some x → b = (l.take i).foldl f b0 → ∃ is ρ1, PgT X tg is (en b) (enc x) ρ1 ∧ Ru X body ρ1 { D with nx := fun ρ => ρ = en (f b x), ct := fun ρ => ρ = en (f b x), ru := fun _ _ => False })
    (hu : ∀ b, (en b).map Sl.unrb = en b) (fin : Ru X rest (en (l.foldl f b0)) D) (hp : PassesOwn (model X.prog X.w) X.A X.env X.xe := by exact PassesOwn.never) (hs : ∀ x, foldedSetIterable iter X.env x = pure x := by intro _; rfl) : Ru X (.For tg iter body [] pos :: rest) ρ D := by
  subst hρ
  refine ru_for hc hi (fun i ρ => ρ = en ((l.take i).foldl f b0)) rfl (fun i t ρ ht e => ?_) (fun ρ e => ?_) hp hs
  · subst e
    rw [List.getElem?_map] at ht
    cases hx : l[i]? with
    | none => rw [hx] at ht; cases ht
    | some x =>
      rw [hx] at ht
      cases ht
      obtain ⟨is, ρ1, g, b⟩ := turn i x _ hx rfl
      have e : (l.take (i + 1)).foldl f b0 = f ((l.take i).foldl f b0) x := by rw [take_snoc hx, List.foldl_append]; rfl
      exact ⟨is, ρ1, g, by rw [e]; exact b⟩
  · subst e
    rw [List.length_map, List.take_length, hu]
    exact fin
/-- over ones own list in slot j, left as it is by the body -/
theorem ru_forOwn (j : Nat) {x : Str} {px : Pos} {ts : List T} (hc : X.calm = true) (hj : ρ[j]? = some (.own ts)) (Pv : Nat → List Sl → Prop) (h0 : Pv 0 (ρ.set j (.rb ts))) (turn : ∀ i t ρ, ts[i]? = some t → Pv i ρ → ∃ is ρ1, PgT X tg is ρ t ρ1 ∧ Ru X body ρ1 { D with nx := Pv (i + 1), ct := Pv (i + 1), ru := fun _ _ => False })
    (fin : ∀ ρ, Pv ts.length ρ → Ru X rest (ρ.map Sl.unrb) D) (hN : X.N[j]? = some x := by rfl)
    (hv : Vis X.env.scope x := by first | exact Or.inl rfl | exact Or.inr (Or.inl rfl) | exact Or.inr (Or.inr rfl)) (hd : (x == ("__debug__" : Str)) = false := by decide) (hcd : (x == ("__classdict__" : Str)) = false := by decide)
    (hp : PassesOwn (model X.prog X.w) X.A X.env X.xe := by exact PassesOwn.never) (hs : ∀ y, foldedSetIterable (.Name x px) X.env y = pure y := by intro _; rfl) : Ru X (.For tg (.Name x px) body [] pos :: rest) ρ D := fun pins s σ H C B I st => by
  obtain ⟨p, xs, ep, n, e2, m⟩ := st.slots j _ hj
  have hz : xs.length ≤ sizeLine := Wf.lst ⟨_, _, _, I⟩ (SqL.of e2)
  refine (pss_cons (ps_for hp hc (pi_list (pe_var hN hv hd hcd)) pg_g pss_ru hs) pss_ru).run pins s σ H _ I ?_
  refine ⟨.ref p, join_some ep, p, rfl, ⟨xs, SqL.of e2⟩, ?_⟩
  -- the base with the list in it
  have hcal : StR X.K C (calm σ ρ H) σ H ρ := st.calm
  generalize hB : L2.upd (calm σ ρ H) p (.lst xs) = B'
  have cp : calm σ ρ H p = none := calm_no ⟨j, _, hj, rfl, ep⟩
  have s1 : Same (calm σ ρ H) B' := by rw [← hB]; exact same_new cp
  have s2 : Same B' H := by
    rw [← hB]
    intro q o z
    by_cases hq : q = p
    · subst hq
      rw [upd_same] at z
      cases z
      exact e2
    · rw [upd_ne hq] at z
      exact calm_same q o z
  have bp : B' p = some (.lst xs) := by rw [← hB, upd_same]
  have hjl : j < ρ.length := (List.getElem?_eq_some_iff.mp hj).1
  have mB : ImAll X.K B' xs ts := (st.calm_ims m).mono s1
  have st' : StR X.K C B' σ H (ρ.set j (.rb ts)) := by
    refine ⟨st.cb.trans (st.calm_b.trans s1), s2, by rw [List.length_set]; exact st.len, fun i a ha => ?_, fun i l a b hil ha hb ma mb => ?_⟩
    · by_cases e : j = i
      · subst e
        rw [List.getElem?_set_self hjl] at ha
        cases ha
        exact ⟨p, xs, ep, SqL.of bp, m⟩
      · rw [List.getElem?_set_ne e] at ha
        have q := hcal.slots i a ha
        cases a with
        | no => trivial
        | val t => exact q
        | sq ts => exact q
        | sd kvs => exact q
        | rb ts =>
          obtain ⟨q1, q2, q3, q4, q5⟩ := q
          exact ⟨q1, q2, q3, s1.seq q4, q5⟩
        | own ts =>
          obtain ⟨q1, q2, q3, q4, q5⟩ := q
          refine ⟨q1, q2, q3, ?_, q5⟩
          rw [← hB, upd_ne]
          · exact q4
          · intro z
            subst z
            exact st.apart j i _ _ e hj ha rfl rfl (by rw [ep, q3])
        | dic ts =>
          obtain ⟨q1, q2, q3, q4, q5⟩ := q
          refine ⟨q1, q2, q3, ?_, q5⟩
          rw [← hB, upd_ne]
          · exact q4
          · intro z
            subst z
            exact st.apart j i _ _ e hj ha rfl rfl (by rw [ep, q3])
        | raw v => exact q
        | ob _ _ _ _ =>
          obtain ⟨q0, dx, vr, vt, l, xs, a, b, c, d⟩ := q
          exact ⟨q0, dx, vr, vt, l, xs, a, s1 _ _ b, s1 _ _ c, d⟩
        | urn q1 u =>
          obtain ⟨q3, q4, q5⟩ := q
          refine ⟨q3, ?_, q5⟩
          rw [← hB, upd_ne]
          · exact q4
          · intro z
            subst z
            exact st.apart j i _ _ e hj ha rfl rfl (by rw [ep, q3])
    · have gt : ∀ {i : Nat} {a : Sl}, (ρ.set j (.rb ts))[i]? = some a → a.mine = true → ρ[i]? = some a := fun {i a} h m => by
        by_cases e : j = i
        · subst e
          rw [List.getElem?_set_self hjl] at h
          cases h
          cases m
        · rw [List.getElem?_set_ne e] at h
          exact h
      exact st.apart i l a b hil (gt ha ma) (gt hb mb) ma mb
  have cb : Same B B' := st.calm_b.trans s1
  have io := itok_lst (K := X.K) (B := B') (a := p) hz (SqL.of bp) mB
  obtain ⟨G, Y, w, hG, hY⟩ := io.ex
  refine for_it w (fun i σ2 H2 => ∃ ρ2, StR X.K C B' σ2 H2 ρ2 ∧ Pv i ρ2) ⟨_, st', h0⟩ (fun i σ2 H2 _ p => ?_) (fun i x σ2 H2 H3 hil p y => ?_) fun σ2 H2 p => ?_
  · obtain ⟨ρ2, st2, _⟩ := p
    exact hG H2 st2.base
  · obtain ⟨ρ2, st2, pv⟩ := p
    obtain ⟨sy, t, ht, im⟩ := hY i H2 x H3 st2.base hil y
    obtain ⟨is, ρ3, g, b⟩ := turn i t ρ2 ht pv
    refine ⟨is, ρ2, C, B', t, ρ3, g, st2.mono sy, im, fun vs hl st3 => ⟨ρ3, C, B', _, b, st3, fun σ' H' h => h, fun v H' h => en_down (C := C) cb h, fun σ' H' h => h⟩⟩
  · obtain ⟨ρ2, st2, pv⟩ := p
    exact ru_use (fin ρ2 pv) (st2.down st.cb cb)
/-- a loop over ones own list as a fold -/
theorem ru_foldOwn {α β : Type} (j : Nat) {x : Str} {px : Pos} (l : List α) (enc : α → T) (f : β → α → β) (b0 : β) (en : β → Sl → List Sl) (hc : X.calm = true) (hρ : ρ = en b0 (.own (l.map enc))) (hj : (en b0 (.own (l.map enc)))[j]? = some (.own (l.map enc)))
    (turn : ∀ i y b, l[i]? = some y → b = (l.take i).foldl f b0 → ∃ is ρ1, PgT X tg is (en b (.rb (l.map enc))) (enc y) ρ1 ∧ Ru X body ρ1 { D with nx := fun ρ => ρ = en (f b y) (.rb (l.map enc)), ct := fun ρ => ρ = en (f b y) (.rb (l.map enc)), ru := fun _ _ => False })
    (hu : ∀ b, (en b (.rb (l.map enc))).map Sl.unrb = en b .no) (hset : ∀ b s, (en b s).set j (.rb (l.map enc)) = en b (.rb (l.map enc))) (fin : Ru X rest (en (l.foldl f b0) .no) D) (hN : X.N[j]? = some x := by rfl)
    (hv : Vis X.env.scope x := by first | exact Or.inl rfl | exact Or.inr (Or.inl rfl) | exact Or.inr (Or.inr rfl)) (hd : (x == ("__debug__" : Str)) = false := by decide) (hcd : (x == ("__classdict__" : Str)) = false := by decide)
    (hp : PassesOwn (model X.prog X.w) X.A X.env X.xe := by exact PassesOwn.never) (hs : ∀ y, foldedSetIterable (.Name x px) X.env y = pure y := by intro _; rfl) : Ru X (.For tg (.Name x px) body [] pos :: rest) ρ D := by
  subst hρ
  refine ru_forOwn j hc hj (fun i ρ => ρ = en ((l.take i).foldl f b0) (.rb (l.map enc))) (hset _ _) (fun i t ρ ht e => ?_) (fun ρ e => ?_) hN hv hd hcd hp hs
  · subst e
    rw [List.getElem?_map] at ht
    cases hx : l[i]? with
    | none => rw [hx] at ht; cases ht
    | some y =>
      rw [hx] at ht
      cases ht
      obtain ⟨is, ρ1, g, b⟩ := turn i y _ hx rfl
      have e : (l.take (i + 1)).foldl f b0 = f ((l.take i).foldl f b0) y := by rw [take_snoc hx, List.foldl_append]; rfl
      exact ⟨is, ρ1, g, by rw [e]; exact b⟩
  · subst e
    rw [List.length_map, List.take_length, hu]
    exact fin
end

/-! ### a def by its body -/
def slIn : A4 → Sl
  | .t t => .val t
  | .s ts => .sq ts
  | .d kvs => .sd kvs
def startR (N : List Str) (as : List A4) : List Sl := as.map slIn ++ List.replicate (N.length - as.length) .no
theorem start_ok {K : PySem.W.Frag} {H : Hp} {N : List Str} {vs : List V} {as : List A4} (h : ArgsOk K H vs as) : StR K H H (L2.start N vs) H (startR N as) := by
  have key : ∀ {vs : List V} {as : List A4}, ArgsOk K H vs as → ∀ (i : Nat) (b : Sl), (as.map slIn)[i]? = some b → ∃ v, vs[i]? = some v ∧ b.mine = false ∧ SlOk K H H H (some v) b := by
    intro vs
    induction vs with
    | nil =>
      intro as h i b hb
      cases as with
      | nil => simp at hb
      | cons a as => exact h.elim
    | cons v vs ih =>
      intro as h i b hb
      cases as with
      | nil => exact h.elim
      | cons a as =>
        obtain ⟨h1, h2⟩ := h
        cases i with
        | zero =>
          have e : slIn a = b := by simpa using hb
          subst e
          refine ⟨v, rfl, ?_, ?_⟩
          · cases a <;> rfl
          · cases a with
            | t t => exact ⟨v, rfl, h1⟩
            | s ts => obtain ⟨p, xs, e, q, m⟩ := h1; exact ⟨p, xs, by rw [e], q, m⟩
            | d ts => obtain ⟨p, xs, e, q, m⟩ := h1; exact ⟨p, xs, by rw [e], q, m⟩
        | succ i =>
          obtain ⟨w, e, r⟩ := ih h2 i b (by simpa using hb)
          exact ⟨w, by simpa using e, r⟩
  have hl := h.length
  have at_ : ∀ (i : Nat) (b : Sl), (startR N as)[i]? = some b → b = .no ∨ ∃ v, vs[i]? = some v ∧ b.mine = false ∧ SlOk K H H H (some v) b := fun i b hb => by
    unfold startR at hb
    by_cases hi : i < (as.map slIn).length
    · rw [List.getElem?_append_left hi] at hb
      exact .inr (key h i b hb)
    · rw [List.getElem?_append_right (by omega)] at hb
      exact .inl (List.eq_of_mem_replicate (List.mem_of_getElem? hb))
  refine ⟨Same.refl H, Same.refl H, ?_, fun i b hb => ?_, fun i j a b hij ha hb ma mb => ?_⟩
  · unfold startR L2.start
    rw [List.length_append, List.length_append, List.length_map, List.length_map, List.length_replicate, List.length_replicate, hl]
  · rcases at_ i b hb with e | ⟨v, e, _, r⟩
    · subst e; trivial
    · have hv : (L2.start N vs)[i]? = some (some v) := by
        unfold L2.start
        have hi : i < (vs.map some).length := by rw [List.length_map]; exact (List.getElem?_eq_some_iff.mp e).1
        rw [List.getElem?_append_left hi, List.getElem?_map, e]
        rfl
      rw [hv]
      exact r
  · rcases at_ i a ha with e | ⟨v, e, n, r⟩
    · subst e; cases ma
    · rw [n] at ma; cases ma
/-- THE RULE for a def -/
theorem ok9 {P : Program} {w : World} {K : PySem.W.Frag} {mg : Str → Option Value} {base : Heap} {x nm : Str} {st : Stmt} {ps N : List Str} {k : Nat} {f : Fn9 K mg x nm st ps} {R : List A4 → A4 → Prop} (S : FnScope N ps (defScope st))
    (body : ∀ (cdv : Value) (A : Around) (outer : List Env) (s : Shared) (H : Hp) (E : XK) (as : List A4) (r : A4), Room k (A.deeper (envOfC nm (defScope st) s.heap.objs.size f.a cdv)) → as.length = ps.length → R as r →
      Ru (cxOf CX0 P w K mg base N nm (defScope st) f.a cdv A outer s H E).nox (defBody st) (startR N as) { rt := fun a => a = r, nx := fun _ => r = .t .non }) : Ok9 P w base (k + 1) f R := by
  refine f.F.ok S (fun vs H Q E h => ?_) fun cdv A outer s H vs Q E hr h => ?_
  · obtain ⟨as, r, hl, ha, _⟩ := h
    rw [ha.length, hl]
  · obtain ⟨as, r, hl, ha, hR, q⟩ := h
    refine ⟨_, pss_ru, startR N as, H, H, _, body cdv A outer s H E as r hr hl hR, start_ok ha, fun σ' H' h => ?_, fun v H' h => ?_, fun σ' H' h => ?_⟩
    · obtain ⟨_, st, z⟩ := h
      subst z
      exact q .non H' st.base .non
    · rcases h with ⟨a, sm, n, e⟩ | ⟨t, σ, ρ, _, _, z⟩
      · subst e
        exact q v H' sm n
      · exact z.elim
    · obtain ⟨_, _, z⟩ := h; exact z.elim
end Nine
set_option maxHeartbeats 4000000
/-! K9T (printed by gen_text.py): the defs by their places, their names by slot, what the top has written. -/
namespace Nine
open PySem PySem.Spec PyProof.Rows L2
def topS (i : Nat) : Stmt := PySem.Challenge.pw_atanywrite_k99_whole_rows_that_do_not_ke.main.body.getD i (.Pass ⟨0, 0, 0, 0⟩)
abbrev s_set_of : Stmt := topS 8
abbrev n_set_of : List Str := ["some"]
theorem sc_set_of : FnScope n_set_of ["some"] (defScope s_set_of) := ⟨rfl, rfl, rfl, by decide +kernel, rfl, by decide +kernel, by decide +kernel⟩
abbrev s_tupled : Stmt := topS 9
abbrev n_tupled : List Str := ["value", "part"]
theorem sc_tupled : FnScope n_tupled ["value"] (defScope s_tupled) := ⟨rfl, rfl, rfl, by decide +kernel, rfl, by decide +kernel, by decide +kernel⟩
abbrev s_class_names : Stmt := topS 14
abbrev n_class_names : List Str := ["fleet", "own"]
theorem sc_class_names : FnScope n_class_names ["fleet"] (defScope s_class_names) := ⟨rfl, rfl, rfl, by decide +kernel, rfl, by decide +kernel, by decide +kernel⟩
abbrev s_check_classes : Stmt := topS 15
abbrev n_check_classes : List Str := ["fleet", "names", "known", "name"]
theorem sc_check_classes : FnScope n_check_classes ["fleet", "names"] (defScope s_check_classes) := ⟨rfl, rfl, rfl, by decide +kernel, rfl, by decide +kernel, by decide +kernel⟩
abbrev s_bad_rows : Stmt := topS 16
abbrev n_bad_rows : List Str := ["fleet", "timing", "lates", "bad", "found", "row", "begin", "late"]
theorem sc_bad_rows : FnScope n_bad_rows ["fleet", "timing", "lates", "bad"] (defScope s_bad_rows) := ⟨rfl, rfl, rfl, by decide +kernel, rfl, by decide +kernel, by decide +kernel⟩
abbrev s_stopped_at : Stmt := topS 17
abbrev n_stopped_at : List Str := ["fleet", "timing", "lates", "bad", "own"]
theorem sc_stopped_at : FnScope n_stopped_at ["fleet", "timing", "lates", "bad"] (defScope s_stopped_at) := ⟨rfl, rfl, rfl, by decide +kernel, rfl, by decide +kernel, by decide +kernel⟩
abbrev s_harmed : Stmt := topS 18
abbrev n_harmed : List Str := ["fleet", "timing", "lates", "bad", "stop", "begin", "told", "name"]
theorem sc_harmed : FnScope n_harmed ["fleet", "timing", "lates", "bad"] (defScope s_harmed) := ⟨rfl, rfl, rfl, by decide +kernel, rfl, by decide +kernel, by decide +kernel⟩
abbrev s_open_classes : Stmt := topS 19
abbrev n_open_classes : List Str := ["fleet", "moment", "shut", "own", "name"]
theorem sc_open_classes : FnScope n_open_classes ["fleet", "moment"] (defScope s_open_classes) := ⟨rfl, rfl, rfl, by decide +kernel, rfl, by decide +kernel, by decide +kernel⟩
abbrev s_count_at : Stmt := topS 20
abbrev n_count_at : List Str := ["fleet", "delay", "moment", "kinds", "rows", "own", "tries"]
theorem sc_count_at : FnScope n_count_at ["fleet", "delay", "moment"] (defScope s_count_at) := ⟨rfl, rfl, rfl, by decide +kernel, rfl, by decide +kernel, by decide +kernel⟩
abbrev s_all_moments : Stmt := topS 21
abbrev n_all_moments : List Str := ["fleet", "own", "moment"]
theorem sc_all_moments : FnScope n_all_moments ["fleet"] (defScope s_all_moments) := ⟨rfl, rfl, rfl, by decide +kernel, rfl, by decide +kernel, by decide +kernel⟩
abbrev s_fleet_counts : Stmt := topS 22
abbrev n_fleet_counts : List Str := ["fleet", "delay", "moment"]
theorem sc_fleet_counts : FnScope n_fleet_counts ["fleet", "delay"] (defScope s_fleet_counts) := ⟨rfl, rfl, rfl, by decide +kernel, rfl, by decide +kernel, by decide +kernel⟩
abbrev s_most_harmed : Stmt := topS 23
abbrev n_most_harmed : List Str := ["fleet", "delay", "moment", "number"]
theorem sc_most_harmed : FnScope n_most_harmed ["fleet", "delay"] (defScope s_most_harmed) := ⟨rfl, rfl, rfl, by decide +kernel, rfl, by decide +kernel, by decide +kernel⟩
abbrev s_spots : Stmt := topS 28
abbrev n_spots : List Str := ["row"]
theorem sc_spots : FnScope n_spots ["row"] (defScope s_spots) := ⟨rfl, rfl, rfl, by decide +kernel, rfl, by decide +kernel, by decide +kernel⟩
abbrev s_stretches : Stmt := topS 29
abbrev n_stretches : List Str := ["row", "own", "place"]
theorem sc_stretches : FnScope n_stretches ["row"] (defScope s_stretches) := ⟨rfl, rfl, rfl, by decide +kernel, rfl, by decide +kernel, by decide +kernel⟩
abbrev s_check_move : Stmt := topS 30
abbrev n_check_move : List Str := ["row", "number"]
theorem sc_check_move : FnScope n_check_move ["row", "number"] (defScope s_check_move) := ⟨rfl, rfl, rfl, by decide +kernel, rfl, by decide +kernel, by decide +kernel⟩
abbrev s_check_spot : Stmt := topS 42
abbrev n_check_spot : List Str := ["row", "spot"]
theorem sc_check_spot : FnScope n_check_spot ["row", "spot"] (defScope s_check_spot) := ⟨rfl, rfl, rfl, by decide +kernel, rfl, by decide +kernel, by decide +kernel⟩
abbrev s_term_by_move : Stmt := topS 43
abbrev n_term_by_move : List Str := ["move", "held", "cell"]
theorem sc_term_by_move : FnScope n_term_by_move ["move", "held"] (defScope s_term_by_move) := ⟨rfl, rfl, rfl, by decide +kernel, rfl, by decide +kernel, by decide +kernel⟩
abbrev s_old_contents : Stmt := topS 44
abbrev n_old_contents : List Str := ["row", "cell"]
theorem sc_old_contents : FnScope n_old_contents ["row"] (defScope s_old_contents) := ⟨rfl, rfl, rfl, by decide +kernel, rfl, by decide +kernel, by decide +kernel⟩
abbrev s_held_behind_terms : Stmt := topS 45
abbrev n_held_behind_terms : List Str := ["held", "moves", "found", "move"]
theorem sc_held_behind_terms : FnScope n_held_behind_terms ["held", "moves"] (defScope s_held_behind_terms) := ⟨rfl, rfl, rfl, by decide +kernel, rfl, by decide +kernel, by decide +kernel⟩
abbrev s_held_by_spot : Stmt := topS 47
abbrev n_held_by_spot : List Str := ["row", "spot"]
theorem sc_held_by_spot : FnScope n_held_by_spot ["row", "spot"] (defScope s_held_by_spot) := ⟨rfl, rfl, rfl, by decide +kernel, rfl, by decide +kernel, by decide +kernel⟩
abbrev s_contents_at : Stmt := topS 48
abbrev n_contents_at : List Str := ["row", "spot", "held", "cell"]
theorem sc_contents_at : FnScope n_contents_at ["row", "spot"] (defScope s_contents_at) := ⟨rfl, rfl, rfl, by decide +kernel, rfl, by decide +kernel, by decide +kernel⟩
abbrev s_end_terms : Stmt := topS 49
abbrev n_end_terms : List Str := ["row", "held", "cell"]
theorem sc_end_terms : FnScope n_end_terms ["row"] (defScope s_end_terms) := ⟨rfl, rfl, rfl, by decide +kernel, rfl, by decide +kernel, by decide +kernel⟩
abbrev s_writes : Stmt := topS 50
abbrev n_writes : List Str := ["row", "cell", "number", "move"]
theorem sc_writes : FnScope n_writes ["row", "cell"] (defScope s_writes) := ⟨rfl, rfl, rfl, by decide +kernel, rfl, by decide +kernel, by decide +kernel⟩
abbrev s_writer : Stmt := topS 51
abbrev n_writer : List Str := ["row", "cell", "spot", "found", "number"]
theorem sc_writer : FnScope n_writer ["row", "cell", "spot"] (defScope s_writer) := ⟨rfl, rfl, rfl, by decide +kernel, rfl, by decide +kernel, by decide +kernel⟩
abbrev s_sources : Stmt := topS 52
abbrev n_sources : List Str := ["row", "number", "cell"]
theorem sc_sources : FnScope n_sources ["row", "number"] (defScope s_sources) := ⟨rfl, rfl, rfl, by decide +kernel, rfl, by decide +kernel, by decide +kernel⟩
abbrev s_users : Stmt := topS 53
abbrev n_users : List Str := ["row", "number", "other"]
theorem sc_users : FnScope n_users ["row", "number"] (defScope s_users) := ⟨rfl, rfl, rfl, by decide +kernel, rfl, by decide +kernel, by decide +kernel⟩
abbrev s_is_kept : Stmt := topS 54
abbrev n_is_kept : List Str := ["row", "number", "cell"]
theorem sc_is_kept : FnScope n_is_kept ["row", "number"] (defScope s_is_kept) := ⟨rfl, rfl, rfl, by decide +kernel, rfl, by decide +kernel, by decide +kernel⟩
abbrev s_counting : Stmt := topS 55
abbrev n_counting : List Str := ["row", "found", "number", "other"]
theorem sc_counting : FnScope n_counting ["row"] (defScope s_counting) := ⟨rfl, rfl, rfl, by decide +kernel, rfl, by decide +kernel, by decide +kernel⟩
abbrev s_mark_below_losses : Stmt := topS 63
abbrev n_mark_below_losses : List Str := ["row", "number", "spot"]
theorem sc_mark_below_losses : FnScope n_mark_below_losses ["row", "number"] (defScope s_mark_below_losses) := ⟨rfl, rfl, rfl, by decide +kernel, rfl, by decide +kernel, by decide +kernel⟩
abbrev s_held_behind_losses : Stmt := topS 65
abbrev n_held_behind_losses : List Str := ["row", "contents", "number", "cells", "terms", "name", "reads", "goal", "cell"]
theorem sc_held_behind_losses : FnScope n_held_behind_losses ["row", "contents", "number"] (defScope s_held_behind_losses) := ⟨rfl, rfl, rfl, by decide +kernel, rfl, by decide +kernel, by decide +kernel⟩
abbrev s_with_term : Stmt := topS 67
abbrev n_with_term : List Str := ["cells", "contents", "goal", "term", "cell", "own"]
theorem sc_with_term : FnScope n_with_term ["cells", "contents", "goal", "term"] (defScope s_with_term) := ⟨rfl, rfl, rfl, by decide +kernel, rfl, by decide +kernel, by decide +kernel⟩
abbrev s_contents_along : Stmt := topS 68
abbrev n_contents_along : List Str := ["row", "play", "number", "found", "here", "place", "lost", "cell"]
theorem sc_contents_along : FnScope n_contents_along ["row", "play"] (defScope s_contents_along) := ⟨rfl, rfl, rfl, by decide +kernel, rfl, by decide +kernel, by decide +kernel⟩
abbrev s_last_contents : Stmt := topS 69
abbrev n_last_contents : List Str := ["row", "play"]
theorem sc_last_contents : FnScope n_last_contents ["row", "play"] (defScope s_last_contents) := ⟨rfl, rfl, rfl, by decide +kernel, rfl, by decide +kernel, by decide +kernel⟩
abbrev s_end_of : Stmt := topS 70
abbrev n_end_of : List Str := ["row", "play", "cell", "own"]
theorem sc_end_of : FnScope n_end_of ["row", "play"] (defScope s_end_of) := ⟨rfl, rfl, rfl, by decide +kernel, rfl, by decide +kernel, by decide +kernel⟩
abbrev s_reads_first : Stmt := topS 71
abbrev n_reads_first : List Str := ["row", "stretch", "number", "first", "last", "moves", "found", "own", "ahead", "other", "cell"]
theorem sc_reads_first : FnScope n_reads_first ["row", "stretch"] (defScope s_reads_first) := ⟨rfl, rfl, rfl, by decide +kernel, rfl, by decide +kernel, by decide +kernel⟩
abbrev s_hazards : Stmt := topS 72
abbrev n_hazards : List Str := ["row", "stretch", "found", "moves", "number", "cell", "laters", "later"]
theorem sc_hazards : FnScope n_hazards ["row"] (defScope s_hazards) := ⟨rfl, rfl, rfl, by decide +kernel, rfl, by decide +kernel, by decide +kernel⟩
abbrev s_keeps : Stmt := topS 73
abbrev n_keeps : List Str := ["row"]
theorem sc_keeps : FnScope n_keeps ["row"] (defScope s_keeps) := ⟨rfl, rfl, rfl, by decide +kernel, rfl, by decide +kernel, by decide +kernel⟩
abbrev s_losses_against : Stmt := topS 74
abbrev n_losses_against : List Str := ["row", "end", "number"]
theorem sc_losses_against : FnScope n_losses_against ["row"] (defScope s_losses_against) := ⟨rfl, rfl, rfl, by decide +kernel, rfl, by decide +kernel, by decide +kernel⟩
abbrev s_mark_below_watch : Stmt := topS 78
abbrev n_mark_below_watch : List Str := ["row", "number", "spot"]
theorem sc_mark_below_watch : FnScope n_mark_below_watch ["row", "number"] (defScope s_mark_below_watch) := ⟨rfl, rfl, rfl, by decide +kernel, rfl, by decide +kernel, by decide +kernel⟩
abbrev s_behind_word : Stmt := topS 80
abbrev n_behind_word : List Str := ["row", "state", "word", "later", "spot", "contents", "play", "move", "held", "cell"]
theorem sc_behind_word : FnScope n_behind_word ["row", "state", "word"] (defScope s_behind_word) := ⟨rfl, rfl, rfl, by decide +kernel, rfl, by decide +kernel, by decide +kernel⟩
abbrev s_end_from : Stmt := topS 81
abbrev n_end_from : List Str := ["row", "state", "held", "spot", "contents", "play", "cell"]
theorem sc_end_from : FnScope n_end_from ["row", "state"] (defScope s_end_from) := ⟨rfl, rfl, rfl, by decide +kernel, rfl, by decide +kernel, by decide +kernel⟩
abbrev s_first_state : Stmt := topS 82
abbrev n_first_state : List Str := ["row"]
theorem sc_first_state : FnScope n_first_state ["row"] (defScope s_first_state) := ⟨rfl, rfl, rfl, by decide +kernel, rfl, by decide +kernel, by decide +kernel⟩
abbrev s_l_box : Stmt := topS 85
abbrev n_l_box : List Str := ["_law_script", "_law_k", "_law_bit_so"]
theorem sc_l_box : FnScope n_l_box ["_law_script", "_law_k"] (defScope s_l_box) := ⟨rfl, rfl, rfl, by decide +kernel, rfl, by decide +kernel, by decide +kernel⟩
abbrev s_l_take : Stmt := topS 86
abbrev n_l_take : List Str := ["_law_urn", "_law_low_so", "_law_once", "_law_far", "_law_twice", "_law_drawn"]
theorem sc_l_take : FnScope n_l_take ["_law_urn", "_law_low_so"] (defScope s_l_take) := ⟨rfl, rfl, rfl, by decide +kernel, rfl, by decide +kernel, by decide +kernel⟩
abbrev s_l_cells : Stmt := topS 87
abbrev n_l_cells : List Str := ["_law_script", "_law_roof_so", "_law_bits_so", "_law_k", "_law_bit_so", "_law_at_so"]
theorem sc_l_cells : FnScope n_l_cells ["_law_script", "_law_roof_so"] (defScope s_l_cells) := ⟨rfl, rfl, rfl, by decide +kernel, rfl, by decide +kernel, by decide +kernel⟩
abbrev s_l_of : Stmt := topS 88
abbrev n_l_of : List Str := ["_law_urn", "_law_some_so"]
theorem sc_l_of : FnScope n_l_of ["_law_urn", "_law_some_so"] (defScope s_l_of) := ⟨rfl, rfl, rfl, by decide +kernel, rfl, by decide +kernel, by decide +kernel⟩
abbrev s_l_same : Stmt := topS 89
abbrev n_l_same : List Str := ["_law_near", "_law_goal", "_law_mine_so", "_law_own"]
theorem sc_l_same : FnScope n_l_same ["_law_near", "_law_goal"] (defScope s_l_same) := ⟨rfl, rfl, rfl, by decide +kernel, rfl, by decide +kernel, by decide +kernel⟩
abbrev s_l_fleet : Stmt := topS 90
abbrev n_l_fleet : List Str := ["_law_urn", "_law_most_so", "_law_found", "_law_tag", "_law_tries_so", "_law_lap"]
theorem sc_l_fleet : FnScope n_l_fleet ["_law_urn", "_law_most_so"] (defScope s_l_fleet) := ⟨rfl, rfl, rfl, by decide +kernel, rfl, by decide +kernel, by decide +kernel⟩
abbrev s_l_kinds : Stmt := topS 91
abbrev n_l_kinds : List Str := ["_law_fleet_so", "_law_own"]
theorem sc_l_kinds : FnScope n_l_kinds ["_law_fleet_so"] (defScope s_l_kinds) := ⟨rfl, rfl, rfl, by decide +kernel, rfl, by decide +kernel, by decide +kernel⟩
abbrev s_l_run : Stmt := topS 92
abbrev n_l_run : List Str := ["_law_fleet_so", "_law_begins_so", "_law_lates_so", "_law_ill_so", "_law_now", "_law_hit_so", "_law_stop_so", "_law_told_so", "_law_k"]
theorem sc_l_run : FnScope n_l_run ["_law_fleet_so", "_law_begins_so", "_law_lates_so", "_law_ill_so"] (defScope s_l_run) := ⟨rfl, rfl, rfl, by decide +kernel, rfl, by decide +kernel, by decide +kernel⟩
abbrev s_l_timings : Stmt := topS 93
abbrev n_l_timings : List Str := ["_law_fleet_so", "_law_found", "_law_own", "_law_late", "_law_row_so", "_law_now"]
theorem sc_l_timings : FnScope n_l_timings ["_law_fleet_so"] (defScope s_l_timings) := ⟨rfl, rfl, rfl, by decide +kernel, rfl, by decide +kernel, by decide +kernel⟩
abbrev s_l_row : Stmt := topS 94
abbrev n_l_row : List Str := ["_law_urn", "_law_lap", "_law_marks_so", "_law_cells_so", "_law_moves_so", "_law_reads_so", "_law_name_so", "_law_k"]
theorem sc_l_row : FnScope n_l_row ["_law_urn"] (defScope s_l_row) := ⟨rfl, rfl, rfl, by decide +kernel, rfl, by decide +kernel, by decide +kernel⟩
abbrev s_l_counting : Stmt := topS 95
abbrev n_l_counting : List Str := ["_law_line_so", "_law_k", "_law_need_so", "_law_found", "_law_name_so", "_law_reads_so", "_law_goal_so", "_law_own"]
theorem sc_l_counting : FnScope n_l_counting ["_law_line_so"] (defScope s_l_counting) := ⟨rfl, rfl, rfl, by decide +kernel, rfl, by decide +kernel, by decide +kernel⟩
abbrev s_l_hazards : Stmt := topS 96
abbrev n_l_hazards : List Str := ["_law_line_so", "_law_spots_so", "_law_place", "_law_found", "_law_fine", "_law_k", "_law_gone_so", "_law_reads_so", "_law_own", "_law_j"]
theorem sc_l_hazards : FnScope n_l_hazards ["_law_line_so"] (defScope s_l_hazards) := ⟨rfl, rfl, rfl, by decide +kernel, rfl, by decide +kernel, by decide +kernel⟩
abbrev s_l_end : Stmt := topS 97
abbrev n_l_end : List Str := ["_law_line_so", "_law_play_so", "_law_marks_so", "_law_place", "_law_held_so", "_law_spot", "_law_last", "_law_k", "_law_terms_so", "_law_name_so", "_law_reads_so", "_law_goal_so", "_law_own"]
theorem sc_l_end : FnScope n_l_end ["_law_line_so", "_law_play_so"] (defScope s_l_end) := ⟨rfl, rfl, rfl, by decide +kernel, rfl, by decide +kernel, by decide +kernel⟩
abbrev s_l_line_right : Stmt := topS 98
abbrev n_l_line_right : List Str := ["_law_line_so", "_law_k", "_law_has_so", "_law_sure_so", "_law_bad_so", "_law_plate", "_law_due"]
theorem sc_l_line_right : FnScope n_l_line_right ["_law_line_so"] (defScope s_l_line_right) := ⟨rfl, rfl, rfl, by decide +kernel, rfl, by decide +kernel, by decide +kernel⟩
abbrev s_l_fleet_right : Stmt := topS 99
abbrev n_l_fleet_right : List Str := ["_law_host", "_law_begins_so", "_law_lates_so", "_law_lines_so", "_law_ill_so", "_law_told_so", "_law_has_so", "_law_hit_so", "_law_stop_so", "_law_tag"]
theorem sc_l_fleet_right : FnScope n_l_fleet_right ["_law_host", "_law_begins_so", "_law_lates_so", "_law_lines_so"] (defScope s_l_fleet_right) := ⟨rfl, rfl, rfl, by decide +kernel, rfl, by decide +kernel, by decide +kernel⟩
abbrev s_l_by_hand_right : Stmt := topS 100
abbrev n_l_by_hand_right : List Str := ["_law_cells_so", "_law_own_so", "_law_safe_so", "_law_late_so", "_law_idle_so", "_law_made_so", "_law_cut_so", "_law_rows_so", "_law_has_so", "_law_goal", "_law_fix_so", "_law_host", "_law_lines_so", "_law_own"]
theorem sc_l_by_hand_right : FnScope n_l_by_hand_right [] (defScope s_l_by_hand_right) := ⟨rfl, rfl, rfl, by decide +kernel, rfl, by decide +kernel, by decide +kernel⟩
abbrev s_l_right : Stmt := topS 101
abbrev n_l_right : List Str := ["_law_urn", "_law_tag", "_law_host", "_law_lines_so", "_law_begins_so", "_law_lates_so", "_law_own"]
theorem sc_l_right : FnScope n_l_right ["_law_urn"] (defScope s_l_right) := ⟨rfl, rfl, rfl, by decide +kernel, rfl, by decide +kernel, by decide +kernel⟩
abbrev s_law : Stmt := topS 102
abbrev n_law : List Str := ["_law_script", "_law_bits_so", "_law_k"]
theorem sc_law : FnScope n_law ["_law_script"] (defScope s_law) := ⟨rfl, rfl, rfl, by decide +kernel, rfl, by decide +kernel, by decide +kernel⟩
abbrev s_w_init : Stmt := inClass (topS 83) 0
abbrev n_w_init : List Str := ["self", "row"]
theorem sc_w_init : FnScope n_w_init ["self", "row"] (defScope s_w_init) := ⟨rfl, rfl, rfl, by decide +kernel, rfl, by decide +kernel, by decide +kernel⟩
abbrev s_w_deed : Stmt := inClass (topS 83) 7
abbrev n_w_deed : List Str := ["self", "word"]
theorem sc_w_deed : FnScope n_w_deed ["self", "word"] (defScope s_w_deed) := ⟨rfl, rfl, rfl, by decide +kernel, rfl, by decide +kernel, by decide +kernel⟩
abbrev s_w_do : Stmt := inClass (topS 83) 8
abbrev n_w_do : List Str := ["self"]
theorem sc_w_do : FnScope n_w_do ["self"] (defScope s_w_do) := ⟨rfl, rfl, rfl, by decide +kernel, rfl, by decide +kernel, by decide +kernel⟩
abbrev s_w_lose : Stmt := inClass (topS 83) 9
abbrev n_w_lose : List Str := ["self"]
theorem sc_w_lose : FnScope n_w_lose ["self"] (defScope s_w_lose) := ⟨rfl, rfl, rfl, by decide +kernel, rfl, by decide +kernel, by decide +kernel⟩
abbrev s_w_go : Stmt := inClass (topS 83) 10
abbrev n_w_go : List Str := ["self", "words", "other", "word"]
theorem sc_w_go : FnScope n_w_go ["self", "words"] (defScope s_w_go) := ⟨rfl, rfl, rfl, by decide +kernel, rfl, by decide +kernel, by decide +kernel⟩
abbrev s_w_twin : Stmt := inClass (topS 83) 12
abbrev n_w_twin : List Str := ["self", "other"]
theorem sc_w_twin : FnScope n_w_twin ["self"] (defScope s_w_twin) := ⟨rfl, rfl, rfl, by decide +kernel, rfl, by decide +kernel, by decide +kernel⟩
abbrev s_w_end_now : Stmt := inClass (topS 83) 17
abbrev n_w_end_now : List Str := ["self"]
theorem sc_w_end_now : FnScope n_w_end_now ["self"] (defScope s_w_end_now) := ⟨rfl, rfl, rfl, by decide +kernel, rfl, by decide +kernel, by decide +kernel⟩
abbrev s_w_is_well : Stmt := inClass (topS 83) 18
abbrev n_w_is_well : List Str := ["self"]
theorem sc_w_is_well : FnScope n_w_is_well ["self"] (defScope s_w_is_well) := ⟨rfl, rfl, rfl, by decide +kernel, rfl, by decide +kernel, by decide +kernel⟩
/-- what the top has written, as far as it is asked -/
structure E9 (K : PySem.W.Frag) (mg : Str → Option Value) where
  b_abs : mg "abs" = none
  b_all : mg "all" = none
  b_any : mg "any" = none
  b_bool : mg "bool" = none
  b_dict : mg "dict" = none
  b_enumerate : mg "enumerate" = none
  b_int : mg "int" = none
  b_isinstance : mg "isinstance" = none
  b_len : mg "len" = none
  b_list : mg "list" = none
  b_max : mg "max" = none
  b_min : mg "min" = none
  b_property : mg "property" = none
  b_range : mg "range" = none
  b_set : mg "set" = none
  b_sorted : mg "sorted" = none
  b_str : mg "str" = none
  b_tuple : mg "tuple" = none
  b_zip : mg "zip" = none
  c_DEVICE : ∃ t, mg "DEVICE" = some (.int 0 t)
  c_CLASS : ∃ t, mg "CLASS" = some (.int 1 t)
  c_TRIES : ∃ t, mg "TRIES" = some (.int 2 t)
  c_COPY_rows : ∃ t, mg "COPY_rows" = some (.str "copy" t)
  c_PAIR : ∃ t, mg "PAIR" = some (.int 2 t)
  c_PARTS_rows : ∃ t, mg "PARTS_rows" = some (.int 3 t)
  c_OLD_terms : ∃ t, mg "OLD_terms" = some (.str "old" t)
  c_SPOILT_terms : ∃ t, mg "SPOILT_terms" = some (.str "spoilt" t)
  c_COPY_terms : ∃ t, mg "COPY_terms" = some (.str "copy" t)
  c_CELLS : ∃ t, mg "CELLS" = some (.int 0 t)
  c_WANTED : ∃ t, mg "WANTED" = some (.int 1 t)
  c_MOVES : ∃ t, mg "MOVES" = some (.int 2 t)
  c_NAME : ∃ t, mg "NAME" = some (.int 0 t)
  c_READS : ∃ t, mg "READS" = some (.int 1 t)
  c_CELL : ∃ t, mg "CELL" = some (.int 2 t)
  c_PARTS_terms : ∃ t, mg "PARTS_terms" = some (.int 1 t)
  c_OLD_losses : ∃ t, mg "OLD_losses" = some (.str "old" t)
  c_SPOILT_losses : ∃ t, mg "SPOILT_losses" = some (.str "spoilt" t)
  c_GOAL : ∃ t, mg "GOAL" = some (.int 2 t)
  c_DO : ∃ t, mg "DO" = some (.str "do" t)
  c_LOSE : ∃ t, mg "LOSE" = some (.str "lose" t)
  f_set_of : Fn9 K mg "set_of" "set_of" s_set_of ["some"]
  f_tupled : Fn9 K mg "tupled" "tupled" s_tupled ["value"]
  f_class_names : Fn9 K mg "class_names" "class_names" s_class_names ["fleet"]
  f_check_classes : Fn9 K mg "check_classes" "check_classes" s_check_classes ["fleet", "names"]
  f_bad_rows : Fn9 K mg "bad_rows" "bad_rows" s_bad_rows ["fleet", "timing", "lates", "bad"]
  f_stopped_at : Fn9 K mg "stopped_at" "stopped_at" s_stopped_at ["fleet", "timing", "lates", "bad"]
  f_harmed : Fn9 K mg "harmed" "harmed" s_harmed ["fleet", "timing", "lates", "bad"]
  f_open_classes : Fn9 K mg "open_classes" "open_classes" s_open_classes ["fleet", "moment"]
  f_count_at : Fn9 K mg "count_at" "count_at" s_count_at ["fleet", "delay", "moment"]
  f_all_moments : Fn9 K mg "all_moments" "all_moments" s_all_moments ["fleet"]
  f_fleet_counts : Fn9 K mg "fleet_counts" "fleet_counts" s_fleet_counts ["fleet", "delay"]
  f_most_harmed : Fn9 K mg "most_harmed" "most_harmed" s_most_harmed ["fleet", "delay"]
  f_spots : Fn9 K mg "spots" "spots" s_spots ["row"]
  f_stretches : Fn9 K mg "stretches" "stretches" s_stretches ["row"]
  f_check_move : Fn9 K mg "check_move" "check_move" s_check_move ["row", "number"]
  f_check_spot : Fn9 K mg "check_spot" "check_spot" s_check_spot ["row", "spot"]
  f_term_by_move : Fn9 K mg "term_by_move" "term_by_move" s_term_by_move ["move", "held"]
  f_old_contents : Fn9 K mg "old_contents" "old_contents" s_old_contents ["row"]
  f_held_behind_terms : Fn9 K mg "held_behind_terms" "held_behind" s_held_behind_terms ["held", "moves"]
  f_held_by_spot : Fn9 K mg "held_by_spot" "held_by_spot" s_held_by_spot ["row", "spot"]
  f_contents_at : Fn9 K mg "contents_at" "contents_at" s_contents_at ["row", "spot"]
  f_end_terms : Fn9 K mg "end_terms" "end_terms" s_end_terms ["row"]
  f_writes : Fn9 K mg "writes" "writes" s_writes ["row", "cell"]
  f_writer : Fn9 K mg "writer" "writer" s_writer ["row", "cell", "spot"]
  f_sources : Fn9 K mg "sources" "sources" s_sources ["row", "number"]
  f_users : Fn9 K mg "users" "users" s_users ["row", "number"]
  f_is_kept : Fn9 K mg "is_kept" "is_kept" s_is_kept ["row", "number"]
  f_counting : Fn9 K mg "counting" "counting" s_counting ["row"]
  f_mark_below_losses : Fn9 K mg "mark_below_losses" "mark_below" s_mark_below_losses ["row", "number"]
  f_held_behind_losses : Fn9 K mg "held_behind_losses" "held_behind" s_held_behind_losses ["row", "contents", "number"]
  f_with_term : Fn9 K mg "with_term" "with_term" s_with_term ["cells", "contents", "goal", "term"]
  f_contents_along : Fn9 K mg "contents_along" "contents_along" s_contents_along ["row", "play"]
  f_last_contents : Fn9 K mg "last_contents" "last_contents" s_last_contents ["row", "play"]
  f_end_of : Fn9 K mg "end_of" "end_of" s_end_of ["row", "play"]
  f_reads_first : Fn9 K mg "reads_first" "reads_first" s_reads_first ["row", "stretch"]
  f_hazards : Fn9 K mg "hazards" "hazards" s_hazards ["row"]
  f_keeps : Fn9 K mg "keeps" "keeps" s_keeps ["row"]
  f_losses_against : Fn9 K mg "losses_against" "losses_against" s_losses_against ["row"]
  f_mark_below_watch : Fn9 K mg "mark_below_watch" "mark_below" s_mark_below_watch ["row", "number"]
  f_behind_word : Fn9 K mg "behind_word" "behind_word" s_behind_word ["row", "state", "word"]
  f_end_from : Fn9 K mg "end_from" "end_from" s_end_from ["row", "state"]
  f_first_state : Fn9 K mg "first_state" "first_state" s_first_state ["row"]
  f_l_box : Fn9 K mg "_law_box" "_law_box" s_l_box ["_law_script", "_law_k"]
  f_l_take : Fn9 K mg "_law_take" "_law_take" s_l_take ["_law_urn", "_law_low_so"]
  f_l_cells : Fn9 K mg "_law_cells" "_law_cells" s_l_cells ["_law_script", "_law_roof_so"]
  f_l_of : Fn9 K mg "_law_of" "_law_of" s_l_of ["_law_urn", "_law_some_so"]
  f_l_same : Fn9 K mg "_law_same" "_law_same" s_l_same ["_law_near", "_law_goal"]
  f_l_fleet : Fn9 K mg "_law_fleet" "_law_fleet" s_l_fleet ["_law_urn", "_law_most_so"]
  f_l_kinds : Fn9 K mg "_law_kinds" "_law_kinds" s_l_kinds ["_law_fleet_so"]
  f_l_run : Fn9 K mg "_law_run" "_law_run" s_l_run ["_law_fleet_so", "_law_begins_so", "_law_lates_so", "_law_ill_so"]
  f_l_timings : Fn9 K mg "_law_timings" "_law_timings" s_l_timings ["_law_fleet_so"]
  f_l_row : Fn9 K mg "_law_row" "_law_row" s_l_row ["_law_urn"]
  f_l_counting : Fn9 K mg "_law_counting" "_law_counting" s_l_counting ["_law_line_so"]
  f_l_hazards : Fn9 K mg "_law_hazards" "_law_hazards" s_l_hazards ["_law_line_so"]
  f_l_end : Fn9 K mg "_law_end" "_law_end" s_l_end ["_law_line_so", "_law_play_so"]
  f_l_line_right : Fn9 K mg "_law_line_right" "_law_line_right" s_l_line_right ["_law_line_so"]
  f_l_fleet_right : Fn9 K mg "_law_fleet_right" "_law_fleet_right" s_l_fleet_right ["_law_host", "_law_begins_so", "_law_lates_so", "_law_lines_so"]
  f_l_by_hand_right : Fn9 K mg "_law_by_hand_right" "_law_by_hand_right" s_l_by_hand_right []
  f_l_right : Fn9 K mg "_law_right" "_law_right" s_l_right ["_law_urn"]
end Nine
set_option maxHeartbeats 4000000
/-! K9G: the same rules for texts and numbers from 0. -/
namespace Nine
open PySem PySem.Spec PyProof.Rows L2
def natT (n : Nat) : T := .int (n : Int)
section
variable {X : Cx} {e a b c tg iter : Expr} {es : List Expr} {ρ : List Sl} {pos p : Pos}
theorem v_str {a b : Str} : decide ((T.str a).v = (T.str b).v) = decide (a = b) := by
  show decide (V.str a = V.str b) = decide (a = b)
  rw [Bool.eq_iff_iff]
  simp
theorem v_nat {a b : Nat} : decide ((natT a).v = (natT b).v) = decide (a = b) := by
  show decide (V.int (a : Int) = V.int (b : Int)) = decide (a = b)
  rw [Bool.eq_iff_iff]
  simp
  omega
theorem v_int {a b : Int} : decide ((T.int a).v = (T.int b).v) = decide (a = b) := by
  show decide (V.int a = V.int b) = decide (a = b)
  rw [Bool.eq_iff_iff]
  simp
theorem inV_str (x : Str) (l : List Str) : inV (T.str x).v ((l.map T.str).map T.v) = decide (x ∈ l) := by
  unfold inV
  rw [List.any_map, List.any_map, Bool.eq_iff_iff, List.any_eq_true]
  simp only [decide_eq_true_eq]
  constructor
  · rintro ⟨y, hy, e⟩
    have e' : (y == x) = true := e
    rw [← beq_iff_eq.mp e']
    exact hy
  · intro h
    exact ⟨x, h, (show (x == x) = true by simp)⟩
theorem inV_nat (x : Nat) (l : List Nat) : inV (natT x).v ((l.map natT).map T.v) = decide (x ∈ l) := by
  unfold inV
  rw [List.any_map, List.any_map, Bool.eq_iff_iff, List.any_eq_true]
  simp only [decide_eq_true_eq]
  constructor
  · rintro ⟨y, hy, e⟩
    have e' : ((y : Int) == (x : Int)) = true := e
    have : y = x := by have := beq_iff_eq.mp e'; omega
    rw [← this]
    exact hy
  · intro h
    exact ⟨x, h, (show ((x : Int) == (x : Int)) = true by simp)⟩
theorem flat_strs9 (l : List Str) : (l.map T.str).all T.flat = true := by
  rw [List.all_map, List.all_eq_true]
  intro _ _
  rfl
theorem flat_nats (l : List Nat) : (l.map natT).all T.flat = true := by
  rw [List.all_map, List.all_eq_true]
  intro _ _
  rfl
theorem t_eqS {x y : Str} (ha : Py X a ρ (.str x)) (hb : Py X b ρ (.str y)) : Pt X (.Compare a [.Eq] [b] pos) ρ (decide (x = y)) := (t_eq ha hb).eq v_str
theorem t_neS {x y : Str} (ha : Py X a ρ (.str x)) (hb : Py X b ρ (.str y)) : Pt X (.Compare a [.NotEq] [b] pos) ρ (!decide (x = y)) := (t_ne ha hb).eq (by rw [v_str])
theorem t_eqN {x y : Nat} (ha : Py X a ρ (natT x)) (hb : Py X b ρ (natT y)) : Pt X (.Compare a [.Eq] [b] pos) ρ (decide (x = y)) := (t_eq (t := natT x) (u := natT y) ha hb).eq v_nat
theorem y_eqN {x y : Nat} (ha : Py X a ρ (natT x)) (hb : Py X b ρ (natT y)) : Py X (.Compare a [.Eq] [b] pos) ρ (.bl (decide (x = y))) := (y_eq (t := natT x) (u := natT y) ha hb).eq (by rw [v_nat])
theorem t_neN {x y : Nat} (ha : Py X a ρ (natT x)) (hb : Py X b ρ (natT y)) : Pt X (.Compare a [.NotEq] [b] pos) ρ (!decide (x = y)) := (t_ne (t := natT x) (u := natT y) ha hb).eq (by rw [v_nat])
theorem t_ltN {x y : Nat} (ha : Py X a ρ (natT x)) (hb : Py X b ρ (natT y)) : Pt X (.Compare a [.Lt] [b] pos) ρ (decide (x < y)) := (t_lt ha hb).eq (by rw [Bool.eq_iff_iff]; simp)
theorem t_leN {x y : Nat} (ha : Py X a ρ (natT x)) (hb : Py X b ρ (natT y)) : Pt X (.Compare a [.LtE] [b] pos) ρ (decide (x ≤ y)) := (t_le ha hb).eq (by rw [Bool.eq_iff_iff]; simp)
theorem t_gtN {x y : Nat} (ha : Py X a ρ (natT x)) (hb : Py X b ρ (natT y)) : Pt X (.Compare a [.Gt] [b] pos) ρ (decide (y < x)) := (t_gt ha hb).eq (by rw [Bool.eq_iff_iff]; simp)
theorem t_geN {x y : Nat} (ha : Py X a ρ (natT x)) (hb : Py X b ρ (natT y)) : Pt X (.Compare a [.GtE] [b] pos) ρ (decide (y ≤ x)) := (t_ge ha hb).eq (by rw [Bool.eq_iff_iff]; simp)
theorem t_inS {x : Str} {l : List Str} (ha : Py X a ρ (.str x)) (hb : Py X b ρ (.tup (l.map T.str))) (hm : behindInMarks .In b = false := by rfl) : Pt X (.Compare a [.In] [b] pos) ρ (decide (x ∈ l)) := (t_in ha hb rfl (flat_strs9 l) hm).eq (inV_str x l)
theorem y_inS {x : Str} {l : List Str} (ha : Py X a ρ (.str x)) (hb : Py X b ρ (.tup (l.map T.str))) (hm : behindInMarks .In b = false := by rfl) : Py X (.Compare a [.In] [b] pos) ρ (.bl (decide (x ∈ l))) := (y_in ha hb rfl (flat_strs9 l) hm).eq (by rw [inV_str x l])
theorem t_inSL {x : Str} {l : List Str} (ha : Py X a ρ (.str x)) (hb : PyS X b ρ (l.map T.str)) (hm : behindInMarks .In b = false := by rfl) : Pt X (.Compare a [.In] [b] pos) ρ (decide (x ∈ l)) := (t_inL ha hb rfl (flat_strs9 l) hm).eq (inV_str x l)
theorem t_niS {x : Str} {l : List Str} (ha : Py X a ρ (.str x)) (hb : Py X b ρ (.tup (l.map T.str))) (hm : behindInMarks .NotIn b = false := by rfl) : Pt X (.Compare a [.NotIn] [b] pos) ρ (!decide (x ∈ l)) := (t_ni ha hb rfl (flat_strs9 l) hm).eq (by rw [inV_str x l])
theorem t_niSL {x : Str} {l : List Str} (ha : Py X a ρ (.str x)) (hb : PyS X b ρ (l.map T.str)) (hm : behindInMarks .NotIn b = false := by rfl) : Pt X (.Compare a [.NotIn] [b] pos) ρ (!decide (x ∈ l)) := (t_niL ha hb rfl (flat_strs9 l) hm).eq (by rw [inV_str x l])
theorem t_inN {x : Nat} {l : List Nat} (ha : Py X a ρ (natT x)) (hb : Py X b ρ (.tup (l.map natT))) (hm : behindInMarks .In b = false := by rfl) : Pt X (.Compare a [.In] [b] pos) ρ (decide (x ∈ l)) := (t_in (t := natT x) ha hb rfl (flat_nats l) hm).eq (inV_nat x l)
theorem y_inN {x : Nat} {l : List Nat} (ha : Py X a ρ (natT x)) (hb : Py X b ρ (.tup (l.map natT))) (hm : behindInMarks .In b = false := by rfl) : Py X (.Compare a [.In] [b] pos) ρ (.bl (decide (x ∈ l))) := (y_in (t := natT x) ha hb rfl (flat_nats l) hm).eq (by rw [inV_nat x l])
theorem t_inNL {x : Nat} {l : List Nat} (ha : Py X a ρ (natT x)) (hb : PyS X b ρ (l.map natT)) (hm : behindInMarks .In b = false := by rfl) : Pt X (.Compare a [.In] [b] pos) ρ (decide (x ∈ l)) := (t_inL (t := natT x) ha hb rfl (flat_nats l) hm).eq (inV_nat x l)
theorem y_inNL {x : Nat} {l : List Nat} (ha : Py X a ρ (natT x)) (hb : PyS X b ρ (l.map natT)) (hm : behindInMarks .In b = false := by rfl) : Py X (.Compare a [.In] [b] pos) ρ (.bl (decide (x ∈ l))) := (y_inL (t := natT x) ha hb rfl (flat_nats l) hm).eq (by rw [inV_nat x l])
theorem y_addN {x y : Nat} (ha : Py X a ρ (natT x)) (hb : Py X b ρ (natT y)) : Py X (.BinOp a .Add b pos) ρ (natT (x + y)) := (y_add ha hb).eq (by unfold natT; rw [Int.natCast_add])
/-- range over numbers from 0 -/
theorem rng_nat (x n : Nat) : ((List.range n).map fun k : Nat => T.int ((x : Int) + (k : Int))) = (List.range' x n).map natT := by
  rw [List.range'_eq_map_range, List.map_map]
  refine List.map_congr_left fun k _ => ?_
  show _ = natT (x + k)
  unfold natT
  rw [Int.natCast_add]
theorem i_rng {n : Nat} (h : Py X a ρ (natT n)) (hn : n ≤ 10000) (hm : X.mg "range" = none) (hg : Gl X "range" := by rfl) (hs : starEach [a] X.env = [(false, eval a X.env)] := by rfl) :
    PiI X tg (.Call (.Name "range" p) [a] [] pos) ρ ((List.range n).map natT) := i_rng1 h (by omega) hm hg hs
theorem i_rngN {x y : Nat} (h : Py X a ρ (natT x)) (h2 : Py X b ρ (natT y)) (hx : x ≤ 10000) (hy : y ≤ 10000) (hm : X.mg "range" = none) (hg : Gl X "range" := by rfl)
    (hs : starEach [a, b] X.env = [(false, eval a X.env), (false, eval b X.env)] := by rfl) (hs2 : starEach [b] X.env = [(false, eval b X.env)] := by rfl) :
    PiI X tg (.Call (.Name "range" p) [a, b] [] pos) ρ ((List.range' x (y - x)).map natT) := by
  have h := i_rng2 (tg := tg) (p := p) (pos := pos) (i := (x : Int)) (j := (y : Int)) h h2 (by omega) (by omega) hm hg hs hs2
  rw [rng_nat, show ((y : Int) - (x : Int)).toNat = y - x by omega] at h
  exact h
theorem i_rngR {n : Nat} (h : Py X a ρ (.int ((n : Int) - 1))) (h2 : Py X b ρ (.int (-1))) (h3 : Py X c ρ (.int (-1))) (hn : n ≤ 1000) (hm : X.mg "range" = none) (hg : Gl X "range" := by rfl)
    (hs : starEach [a, b, c] X.env = (false, eval a X.env) :: starEach [b, c] X.env := by rfl) (hs2 : starEach [b, c] X.env = (false, eval b X.env) :: starEach [c] X.env := by rfl) (hs3 : starEach [c] X.env = (false, eval c X.env) :: starEach [] X.env := by rfl) (hpl : (backTo pos (starEach [b, c] X.env)).any (·.1) = false := by rfl) :
    PiI X tg (.Call (.Name "range" p) [a, b, c] [] pos) ρ ((List.range n).reverse.map natT) := by
  have h := i_rngD (tg := tg) (p := p) (pos := pos) (i := (n : Int) - 1) h h2 h3 (by omega) hm hg hs hs2 hs3 hpl
  rw [show ((n : Int) - 1 + 1).toNat = n by omega] at h
  refine h.eq (List.ext_getElem? fun i => ?_)
  rw [List.getElem?_map, List.getElem?_map]
  by_cases hi : i < n
  · rw [List.getElem?_range hi, List.getElem?_reverse (by rw [List.length_range]; exact hi), List.length_range, List.getElem?_range (by omega)]
    show some (T.int _) = some (natT _)
    unfold natT
    rw [show ((n - 1 - i : Nat) : Int) = (n : Int) - 1 - (i : Int) by omega]
  · rw [List.getElem?_eq_none (by rw [List.length_range]; omega), List.getElem?_eq_none (by rw [List.length_reverse, List.length_range]; omega)]
    rfl
/-- items -/
theorem at_nat {ts : List T} {j : Nat} {t : T} (h : ts[j]? = some t) : atI ts (j : Int) = some t := atI_nat h
theorem at_map {α : Type} {f : α → T} {l : List α} {j : Nat} {x : α} (h : l[j]? = some x) : atI (l.map f) (j : Int) = some (f x) := atI_nat (by rw [List.getElem?_map, h]; rfl)
theorem y_ixN {ts : List T} {j : Nat} {t : T} (ha : Py X a ρ (.tup ts)) (hb : Py X b ρ (natT j)) (hi : ts[j]? = some t) (hs : PlainIx b := by intro _ _; rfl) : Py X (.Subscript a b pos) ρ t := y_ix ha hb (at_nat hi) hs
theorem y_ixM {α : Type} {f : α → T} {l : List α} {j : Nat} {x : α} (ha : Py X a ρ (.tup (l.map f))) (hb : Py X b ρ (natT j)) (hi : l[j]? = some x) (hs : PlainIx b := by intro _ _; rfl) : Py X (.Subscript a b pos) ρ (f x) := y_ix ha hb (at_map hi) hs
/-- a field of a tuple by a module's number -/
theorem y_fd (j : Nat) {ts : List T} {x : Str} {t : T} {px : Pos} (ha : Py X a ρ (.tup ts)) (hm : ∃ t, X.mg x = some (.int (j : Int) t)) (hi : ts[j]? = some t := by rfl) (hg : Gl X x := by rfl) (hd : (x == ("__debug__" : Str)) = false := by decide) : Py X (.Subscript a (.Name x px) pos) ρ t :=
  y_ix ha (y_gi hm hg hd) (at_nat hi)
theorem y_fc (j : Nat) {ts : List T} {t : T} {k : Nat} {px : Pos} (ha : Py X a ρ (.tup ts)) (hi : ts[j]? = some t := by rfl) : Py X (.Subscript a (.Constant (.int (j : Int)) k px) pos) ρ t :=
  y_ix ha y_int (at_nat hi)
end

section
variable {X : Cx} {e a b c tg iter : Expr} {es : List Expr} {ρ : List Sl} {pos p : Pos}
theorem b_nil : Pa X [] ρ [] := a_nil
theorem b_cons {t : T} {ts : List T} (h : Py X e ρ t) (hr : Pa X es ρ ts) (hs : starEach (e :: es) X.env = (false, eval e X.env) :: starEach es X.env := by rfl) : Pa X (e :: es) ρ (t :: ts) := a_cons h hr hs
theorem b_star {ts us : List T} {p : Pos} (h : Py X e ρ (.tup ts)) (hr : Pa X es ρ us) (hs : starEach (.Starred e p :: es) X.env = (true, eval e X.env) :: starEach es X.env := by rfl) : Pa X (.Starred e p :: es) ρ (ts ++ us) := a_star h hr hs
/-- the greatest of some numbers -/
def maxL (l : List Nat) : Nat := l.foldl max 0
theorem foldl_max : ∀ (l : List Nat) (m : Nat), m ≤ l.foldl max m ∧ (∀ x ∈ l, x ≤ l.foldl max m) ∧ (l.foldl max m = m ∨ l.foldl max m ∈ l)
  | [], m => ⟨Nat.le_refl _, fun _ h => (by cases h), .inl rfl⟩
  | y :: l, m => by
    obtain ⟨h1, h2, h3⟩ := foldl_max l (max m y)
    refine ⟨Nat.le_trans (Nat.le_max_left _ _) h1, fun x hx => ?_, ?_⟩
    · rcases List.mem_cons.mp hx with e | hx
      · rw [e]; exact Nat.le_trans (Nat.le_max_right _ _) h1
      · exact h2 x hx
    · show (l.foldl max (max m y) = m) ∨ (l.foldl max (max m y) ∈ y :: l)
      rcases h3 with e | h
      · rw [e]
        by_cases hm : m ≤ y
        · rw [Nat.max_eq_right hm]; exact .inr List.mem_cons_self
        · rw [Nat.max_eq_left (by omega)]; exact .inl rfl
      · exact .inr (List.mem_cons_of_mem _ h)
theorem maxL_le {l : List Nat} {x : Nat} (h : x ∈ l) : x ≤ maxL l := (foldl_max l 0).2.1 x h
theorem maxL_mem {l : List Nat} (h : l ≠ []) : maxL l ∈ l := by
  rcases (foldl_max l 0).2.2 with e | h2
  · have e' : maxL l = 0 := e
    cases l with
    | nil => exact absurd rfl h
    | cons y l =>
      have := maxL_le (l := y :: l) List.mem_cons_self
      rw [e'] at this ⊢
      rw [show y = 0 by omega]
      exact List.mem_cons_self
  · exact h2
theorem y_maxN {ns : List Nat} (hc : X.calm = true) (h : PyS X e ρ (ns.map natT)) (hne : ns ≠ []) (hm : X.mg "max" = none) (hg : Gl X "max" := by rfl) (he : starEach [e] X.env = (false, eval e X.env) :: starEach [] X.env := by rfl) : Py X (.Call (.Name "max" p) [e] [] pos) ρ (natT (maxL ns)) := by
  have e1 : ns.map natT = (ns.map fun n : Nat => (n : Int)).map T.int := by rw [List.map_map]; rfl
  rw [e1] at h
  refine y_maxL (m := (maxL ns : Int)) hc h (List.mem_map.mpr ⟨_, maxL_mem hne, rfl⟩) (fun y hy => ?_) hm hg he
  obtain ⟨x, hx, rfl⟩ := List.mem_map.mp hy
  have := maxL_le hx
  omega
/-- the place of a text in a tuple of texts -/
def tIdx (to te : TE) : TE := fun σ H Q => to σ H fun x H1 => ∃ p o, ∃ ys : List Str, x = .ref p ∧ H1 p = some (.frz o (.tup (ys.map V.str))) ∧ o.dict = none ∧
  te σ H1 fun y H2 => ∃ z j, y = .str z ∧ H2 p = some (.frz o (.tup (ys.map V.str))) ∧ ys[j]? = some z ∧ (∀ m, m < j → ys[m]? ≠ some z) ∧ Q (.int (j : Nat)) H2
theorem pe_idx {o e : Expr} {to te : TE} {apos cpos : Pos} (ho : PE X o to) (he : PE X e te)
    (hbase : attributeBase o "index" X.env (eval o X.env) = eval o X.env := by rfl)
    (hfew : ((backTo cpos (starEach [e] X.env)).all (fun x => !x.1) && (backToKw cpos (keywordEach [] X.env)).all (fun x => x.1.isSome)
      && decide (([e] : List Expr).length + ([] : List Keyword).length + (if ([] : List Keyword).isEmpty then 0 else 1) < 30)) = true := by rfl)
    (hline : (apos.endLine == cpos.line) = true := by rfl) (hs : starEach [e] X.env = (false, eval e X.env) :: starEach [] X.env := by rfl) (hplain : (backTo cpos (starEach [] X.env)).any (·.1) = false := by rfl) :
    PE X (.Call (.Attribute o "index" apos) [e] [] cpos) (tIdx to te) := by
  refine ⟨fun pins s σ H Q I h => ?_⟩
  refine wpAny_Call_method_late hbase hfew hline rfl (thn (ho.run pins s σ H _ I h) fun v s1 ⟨x, H1, I1, r1, p, ob, ys, ex, hp, hd, q1⟩ => ?_)
  subst ex
  cases r1
  obtain ⟨hg, hz, its, hv, ht⟩ := I1.hok p _ hp
  obtain ⟨o2, g2, c2, _⟩ := ht
  have eo : o2 = ob := Option.some.inj (g2.symm.trans hg)
  subst eo
  refine ⟨"tuple", "tuple.index", PySem.F.plainAttrs_tuple, PySem.F.slot_tuple_index, PySem.F.type_tuple_index, ⟨o2, hg, c2⟩, fun a ea => by cases ea; exact ⟨o2, hg, hd⟩, ?_⟩
  have hA := (pa_cons he pa_nil hs).run cpos pins s1 σ H1 (fun vs H2 => match vs with
    | [y] => ∃ z j, y = .str z ∧ H2 p = some (.frz o2 (.tup (ys.map V.str))) ∧ ys[j]? = some z ∧ (∀ m, m < j → ys[m]? ≠ some z) ∧ Q (.int (j : Nat)) H2
    | _ => False) I1 q1
  rw [hs] at hA ⊢
  refine Calls.callWith_builtin (by show (false || (backTo cpos (starEach [] X.env)).any (·.1)) = false; rw [hplain] <;> rfl) (Calls.evalArgs_plain ?_)
  exact thn hA fun us s2 ⟨vs, H2, I2, r2, q2⟩ => by
    match vs, q2, r2 with
    | [y], q2, r2 =>
    obtain ⟨z, j, rfl, hp2, hj, hf, q⟩ := q2
    exact mt_tup_index pins s2 σ H2 (.ref p) [.str z] (.ref p) us Q I2 rfl r2 ⟨p, ys, z, j, rfl, rfl, .inl (.inr ⟨_, hp2⟩), hj, hf, q⟩
theorem y_index {o : Expr} {l : List Str} {z : Str} {j : Nat} {pa_ pc : Pos} (h : Py X o ρ (.tuf l)) (he : Py X e ρ (.str z)) (hj : l[j]? = some z) (hf : ∀ m, m < j → l[m]? ≠ some z)
    (hbase : attributeBase o "index" X.env (eval o X.env) = eval o X.env := by rfl)
    (hfew : ((backTo pc (starEach [e] X.env)).all (fun x => !x.1) && (backToKw pc (keywordEach [] X.env)).all (fun x => x.1.isSome)
      && decide (([e] : List Expr).length + ([] : List Keyword).length + (if ([] : List Keyword).isEmpty then 0 else 1) < 30)) = true := by rfl)
    (hline : (pa_.endLine == pc.line) = true := by rfl) (hs : starEach [e] X.env = (false, eval e X.env) :: starEach [] X.env := by rfl) (hplain : (backTo pc (starEach [] X.env)).any (·.1) = false := by rfl) :
    Py X (.Call (.Attribute o "index" pa_) [e] [] pc) ρ (natT j) :=
  PyG.of (pe_idx pe_g pe_g hbase hfew hline hs hplain) fun σ H C B st => g_use h st fun x H1 s1 q1 => by
    cases q1 with
    | tuf hz hd => exact ⟨_, _, l, rfl, hz, hd, g_use he (st.mono s1) fun v H2 s2 q2 => ⟨z, j, by rw [Im.str_eq q2], s2 _ _ hz, hj, hf, s1.trans s2, .int _⟩⟩
/-- a written tuple of texts, its object known -/
def tTupF (t : TA) : TE := fun σ H Q => t σ H fun xs H1 => xs.length ≤ sizeLine ∧ ∀ p o, H1 p = none → o.dict = none → Q (.ref p) (upd H1 p (.frz o (.tup xs)))
theorem pe_tupF {x1} {t : TA} (h : PA X es t) : PE X (.Tuple es x1 pos) (tTupF t) := by
  refine ⟨fun pins s σ H Q I hq => ?_⟩
  refine wpAny_Tuple_spliced (thn (h.run pos pins s σ H _ I hq) fun us s1 ⟨xs, H1, I1, r, z, q⟩ => ⟨by rw [← r.length]; exact z, ?_⟩)
  have hf : H1 s1.heap.objs.size = none := I1.hok.fresh (Nat.le_refl _)
  refine ⟨.ref s1.heap.objs.size, _, I1.laid (t' := s1.toks) (fun b u e => Heap.get?_push_of_some _ e) (Nat.le_refl _) ?_, rfl, q _ { cls := .type "tuple", data := .seq us.toArray } hf rfl⟩
  exact ⟨Heap.get?_push_size _ rfl, z, us, r, ⟨_, Heap.get?_push_size _ rfl, rfl, _, rfl⟩⟩
theorem y_tupF {l : List Str} {k : Nat} (h : Pa X es ρ (l.map T.str)) (hl : l.length ≤ 1000 := by decide) : Py X (.Tuple es k pos) ρ (.tuf l) :=
  PyG.of (pe_tupF pa_g) fun σ H C B st => ga_use h st fun vs H1 s1 q1 => ⟨by rw [q1.length, List.length_map, List.length_map]; exact Nat.le_of_lt (small1000 hl), fun p o np hd => ⟨s1.trans (same_new np), .tuf (by rw [upd_same, (ArgsOk.all q1).strs]) hd⟩⟩
theorem Py.low {l : List Str} (h : Py X e ρ (.tuf l)) : Py X e ρ (.tup (l.map T.str)) := h.imp fun _ _ _ _ q => q.low
end

/-! ### the data of a ROW -/
structure Mv where
  nm : Str
  rd : List Str
  gl : Str
structure Rw where
  cells : List Str
  want : List Str
  mv : List Mv
  ms : List Nat
def Mv.t (m : Mv) : T := .tup [.str m.nm, .tup (m.rd.map T.str), .str m.gl]
def Rw.t (r : Rw) : T := .tup [.tup (r.cells.map T.str), .tup (r.want.map T.str), .tup (r.mv.map Mv.t), .tup (r.ms.map natT)]
/-- with the cells' object known -/
def Rw.tf (r : Rw) : T := .tup [.tuf r.cells, .tup (r.want.map T.str), .tup (r.mv.map Mv.t), .tup (r.ms.map natT)]
theorem Py.rt {X : Cx} {e : Expr} {ρ : List Sl} {r : Rw} (h : Py X e ρ r.tf) : Py X e ρ r.t := h.imp fun _ _ _ _ q => by
  cases q with
  | tup hs ha =>
    cases ha with
    | cons h1 h2 => exact .tup hs (.cons h1.low h2)
structure Mv.Ok (r : Rw) (m : Mv) : Prop where
  rd : ∀ c ∈ m.rd, c ∈ r.cells
  nd : m.rd.Nodup
  gl : m.gl ∈ r.cells
  cp : m.nm = "copy" → m.rd.length = 1
  lo : m.rd.length ≤ 2
  nk : PyData.strOk m.nm = true
structure Rw.Ok (r : Rw) : Prop where
  nd : r.cells.Nodup
  ck : ∀ c ∈ r.cells, PyData.strOk c = true
  lc : r.cells.length ≤ 6
  wc : r.want = r.cells.filter fun c => decide (c ∈ r.want)
  mv : ∀ m ∈ r.mv, m.Ok r
  pos : 0 < r.mv.length
  lm : r.mv.length ≤ 4
  asc : r.ms.Pairwise (· < ·)
  mb : ∀ n ∈ r.ms, 0 < n ∧ n < r.mv.length
end Nine
set_option maxHeartbeats 4000000
/-! K9H: enumerate of a tuple; zip of three tuples. -/
namespace Nine
open PySem PySem.Spec PyProof.Rows L2
open Sem (wp)
/-- new tuples, the i-th of the values us i -/
def Itg (G : Hp → Prop) (n : Nat) (us : Nat → List V) : It :=
  ⟨fun i H => G H ∧ i < n, fun i H v H' => ∃ q, v = .ref q ∧ H q = none ∧ H' = upd H q (.tup (us i)), fun i H => G H ∧ i = n⟩
theorem itok_new {K : PySem.W.Frag} {B : Hp} {n : Nat} {G : Hp → Prop} {us : Nat → List V} {ts : Nat → List T} (hz : n ≤ sizeLine) (hG : ∀ H, Same B H → G H) (h : ∀ i < n, ImAll K B (us i) (ts i)) :
    ItOk K B (Itg G n us) ((List.range n).map fun i => T.tup (ts i)) := by
  refine ⟨by rw [List.length_map, List.length_range]; exact hz, G, fun i H v H' => ∃ q, v = .ref q ∧ H q = none ∧ H' = upd H q (.tup (us i)), ⟨fun i H hi g => ⟨g, by rw [List.length_map, List.length_range] at hi; exact hi⟩, fun H g => ⟨g, by rw [List.length_map, List.length_range]⟩, fun i H x H' _ _ y => y⟩, hG, fun i H x H' s hi y => ?_⟩
  rw [List.length_map, List.length_range] at hi
  obtain ⟨q, rfl, hq, rfl⟩ := y
  have sn : Same H (upd H q (.tup (us i))) := same_new hq
  exact ⟨sn, .tup (ts i), by rw [List.getElem?_map, List.getElem?_range hi]; rfl, .tup (SqT.of upd_same) ((h i hi).mono (s.trans sn))⟩

set_option maxHeartbeats 8000000 in
theorem meets_enumerate_newT {v : Value} {o : Obj} {H : Heap → Prop} (B : Begins v o H) :
    Meets (Builtin.«enumerate.__new__» ⟨[.type "enumerate", v], []⟩) (fun _ R s => H s.heap ∧
      R (.ok (.ret (.ref (s.heap.push o).objs.size))) { s with heap := (s.heap.push o).push { cls := .type "enumerate", data := .fields #[.none, .bool false, .ref s.heap.objs.size, rawInt 0, .none, .none] } }) :=
  .of_wp fun prog w A R s h => by
    obtain ⟨hp, g, d, tk, os⟩ := s; obtain ⟨h1, h⟩ := h
    have hsub := sub_enumerate
    have q1 : ∀ {A' : Around} {E : Value → Shared → Prop} {Q : Value → Shared → Prop}, Q (.ref hp.objs.size) ⟨hp.push o, g, d, tk, os⟩ → wpAny (model prog w) A' (pyIter v) Q E ⟨hp, g, d, tk, os⟩ :=
      fun q => B.iter prog w _ _ ⟨hp, g, d, tk, os⟩ _ h1 q
    wp_walk using q1
    refine wpAny_stack_any fun st => wpAny_pure ?_
    split
    · rename_i c _ _ _ _ _
      cases (c == Value.type "enumerate")
      · wp_walk using q1
        exact ⟨_, rfl, h⟩
      · wp_walk using q1
        exact ⟨_, rfl, h⟩
    · wp_walk using q1
      exact ⟨_, rfl, h⟩
theorem call_enumT {prog : Program} {w : World} {A : Around} {E : Value → Shared → Prop} {s : Shared} {l : Addr} {items : Array Value} {Q : Value → Shared → Prop} (hL : s.heap.IsTuple l items)
    (h : ∀ h', IsEnum h' (s.heap.objs.size + 1) s.heap.objs.size 0 .none → h'.IsTupleIter s.heap.objs.size l 0 → h'.objs.size = s.heap.objs.size + 2 →
      (∀ b o, s.heap.get? b = some o → h'.get? b = some o) → Q (.ref (s.heap.objs.size + 1)) { s with heap := h' }) :
    wpAny (model prog w) A (call (.type "enumerate") [.ref l]) Q E s := by
  refine callType_new F.called_enumerate (by decide) (F.typeCall_enumerate_1 _) (F.newCall_enumerate_1 _) (fun obj => F.args_object_init_2 obj _) F.entry_enumerate_new
    (meets_enumerate_newT (begins_tuple l items)) ⟨hL, ?_⟩
  have hz : (s.heap.push { cls := .type "tuple_iterator", data := .fields #[.ref l, .int 0 0] }).objs.size = s.heap.objs.size + 1 := Heap.size_push ..
  show _ ∧ _
  rw [hz]
  have he : IsEnum ((s.heap.push { cls := .type "tuple_iterator", data := .fields #[.ref l, .int 0 0] }).push
      { cls := .type "enumerate", data := .fields #[.none, .bool false, .ref s.heap.objs.size, rawInt 0, .none, .none] }) (s.heap.objs.size + 1) s.heap.objs.size 0 .none := by
    have := Heap.get?_push_size (s.heap.push { cls := .type "tuple_iterator", data := .fields #[.ref l, .int 0 0] })
      (o := { cls := .type "enumerate", data := .fields #[.none, .bool false, .ref s.heap.objs.size, rawInt 0, .none, .none] }) rfl
    rw [hz] at this; exact this
  refine ⟨⟨_, he, rfl⟩, h _ he ⟨_, Heap.get?_push_of_some _ (Heap.get?_push_size _ rfl), rfl, rfl⟩ (by rw [Heap.size_push, hz]) fun b o x => Heap.get?_push_of_some _ (Heap.get?_push_of_some _ x)⟩
/-- from next to Turn's item -/
theorem item_of {X : Cx} {pins : List (Addr × Obj)} {σ : L2.St} {H : Hp} {s : Shared} {fp wr : List Addr} {h' : Heap} {tk : Nat} {q : Addr} {us : List V} {vs : List Value} (I : Inv X pins σ H s) (hf : ∀ b ∈ fp, FpOk X pins H b) (hw : ∀ b ∈ wr, b ∈ fp) (hlt : ∀ b ∈ fp, b < s.heap.objs.size)
    (hk : ∀ b o, b ∉ wr → s.heap.get? b = some o → h'.get? b = some o) (hq : s.heap.objs.size ≤ q) (hz : us.length ≤ sizeLine) (hv : Vals us vs) (ht : h'.IsTuple q vs.toArray) :
    Inv X pins σ (upd H q (.tup us)) { s with heap := h', toks := tk } ∧ ∀ b ∈ fp, (upd H q (.tup us)) b = none := by
  refine ⟨I.turnedNew (t' := tk) (ch := fp) (fun b o hb e => hk b o (fun z => hb (hw b z)) e) hf hq (show ObjOk X.prog X.w _ h' q (.tup us) from ⟨hz, vs, hv, ht⟩), fun b hb => ?_⟩
  have hne : b ≠ q := by
    intro z; subst z; exact Nat.lt_irrefl _ (Nat.lt_of_lt_of_le (hlt _ hb) hq)
  rw [upd_ne hne]
  exact (hf b hb).1
abbrev enS (a e it : Addr) : Nat → Heap → Prop := fun i h => (∃ old, IsEnum h e it ((i : Nat) : Int) old) ∧ h.IsTupleIter it a i ∧ e ≠ it ∧ a ≠ it ∧ a ≠ e
theorem turn_enumT {P : Program} {w : World} {K : PySem.W.Frag} {elts : List Expr} {kk : Nat} {tpos : Pos} (a e it : Addr) (xs : List V) :
    Turn P w K (.Tuple elts kk tpos) (Itg (fun H => SqT K H a xs) xs.length fun i => [.int (i : Nat), xs.getD i .non]) [e, it] e (enS a e it) where
  mem := by simp
  obj := fun i h st b hb => by
    obtain ⟨⟨old, he⟩, ⟨o, ho, hc, hd⟩, _⟩ := st
    have e' : b = e ∨ b = it := by simpa using hb
    rcases e' with z | z
    · rw [z]; exact ⟨_, he, fun v q => nomatch q⟩
    · rw [z]; exact ⟨o, ho, fun v q => by rw [hd] at q; cases q⟩
  keep := fun i h h' st k => let ⟨⟨old, he⟩, hi, hne⟩ := st; ⟨⟨old, k e (by simp) _ he⟩, hi.at fun o q => k it (by simp) o q, hne⟩
  item := by
    intro X hP hw hK hc i pins s σ H E I hf st hg
    subst hP hw hK
    obtain ⟨⟨old, he⟩, hit, h1, h2, h3⟩ := st
    obtain ⟨hq, hi⟩ := hg
    obtain ⟨its, rv, p, hz⟩ := I.tuple hq
    have hl := rv.length
    have hx : xs[i]? = some xs[i] := by simp [hi]
    obtain ⟨u, hu, ru⟩ := rv.get hx
    have G := GoesN.enumFrom (elts := elts) (x1 := kk) (pos := tpos) 0 (Draws.tuple (prog := X.prog) (w := X.w) (A := X.A.in1) (I.ok.hd hc) it a h2 its.toArray) e h1 (by simp [h1, Ne.symm h3]) (by simp)
    have e0 : (0 : Int) + ((i : Nat) : Int) = (i : Int) := by omega
    refine G.goes i s (fun v s2 => ∃ x H', Inv X pins σ H' s2 ∧ RelV x v ∧ (Itg (fun H => SqT X.K H a xs) xs.length fun i => [.int (i : Nat), xs.getD i .non]).yld i H x H' ∧ enS a e it (i + 1) s2.heap ∧ ∀ b ∈ [e, it], H' b = none) E (by simp; omega) ⟨⟨old, by rw [e0]; exact he⟩, hit, p⟩ fun v h' tk y st' hk htk => ?_
    obtain ⟨q, t, x, rfl, hsz, hxi, hT⟩ := y
    rw [e0] at hT
    have ex : x = u := by
      have : its.toArray[i]? = some u := by simpa using hu
      rw [this] at hxi
      exact (Option.some.inj hxi).symm
    subst ex
    have hel : e < s.heap.objs.size := Heap.lt_size he
    have hil : it < s.heap.objs.size := by obtain ⟨_, q, _⟩ := hit; exact Heap.lt_size q
    obtain ⟨I2, hn⟩ := item_of (us := [.int (i : Nat), xs.getD i .non]) (vs := [.int i t, x]) (tk := tk) I hf (fun b hb => hb) (fun b hb => by
      have e' : b = e ∨ b = it := by simpa using hb
      rcases e' with z | z
      · rw [z]; exact hel
      · rw [z]; exact hil) hk hsz (by show 2 ≤ sizeLine; decide) (.cons ⟨_, rfl⟩ (.cons (by simpa [hi] using ru) .nil)) hT
    obtain ⟨⟨o2, ho2⟩, hit2, _⟩ := st'
    refine ⟨.ref q, _, I2, rfl, ⟨q, rfl, I.hok.fresh hsz, rfl⟩, ⟨⟨o2, ?_⟩, hit2, h1, h2, h3⟩, hn⟩
    have e1 : (0 : Int) + ((i + 1 : Nat) : Int) = ((i + 1 : Nat) : Int) := by omega
    rw [e1] at ho2
    exact ho2
  done := by
    intro X hP hw hK hc i pins s σ H E I hf st hg
    subst hP hw hK
    obtain ⟨⟨old, he⟩, hit, h1, h2, h3⟩ := st
    obtain ⟨hq, hi⟩ := hg
    obtain ⟨its, rv, p, hz⟩ := I.tuple hq
    have hl := rv.length
    have D0 := Draws.tuple (prog := X.prog) (w := X.w) (A := X.A.in1) (I.ok.hd hc) it a h2 its.toArray
    have ei : i = its.toArray.size := by simp; omega
    subst ei
    refine wpAny_pyNext_enum_endD D0 he ⟨hit, p⟩ fun h' eb => ⟨rfl, I.turnedL (t' := s.toks) (ch := [e, it]) (fun b o hb q => eb b o (fun z => hb (by simp [z])) q) hf⟩
  self := fun A i s Q E st h => let ⟨⟨_, he⟩, _⟩ := st; wpAny_pyIter_enum he h
def iEnumT (K : PySem.W.Frag) (ta : TA) : TI := fun σ H R => ta σ H fun vs H1 => ∃ a xs, vs = [.ref a] ∧ SqT K H1 a xs ∧ R (Itg (fun H => SqT K H a xs) xs.length fun i => [.int (i : Nat), xs.getD i .non]) H1
theorem pi_enumT {X : Cx} {e : Expr} {ta : TA} {p pos tpos : Pos} {elts : List Expr} {kk : Nat} (hg : Gl X "enumerate") (hm : X.mg "enumerate" = none) (ha : PA X [e] ta) (hs : starEach [e] X.env = [(false, eval e X.env)] := by rfl) :
    PI X (.Tuple elts kk tpos) (.Call (.Name "enumerate" p) [e] [] pos) (iEnumT X.K ta) := by
  refine ⟨fun pins s σ H R I h => ?_⟩
  refine Call_ (ld_blt I hg hm boot_enumerate (PyProof.Rows.callWith_type1 (thn (ha.run pos pins s σ H _ I h) fun us s1 ⟨vs, H1, I1, r1, q1⟩ => ?_) hs rfl))
  obtain ⟨a, xs, ex, hq, q⟩ := q1
  subst ex
  cases r1 with
  | cons r rr =>
    cases rr
    cases r
    obtain ⟨its, rv, p', hz⟩ := I1.tuple hq
    obtain ⟨o1, ho1, _⟩ := id p'
    have hlt : a < s1.heap.objs.size := Heap.lt_size ho1
    refine call_enumT (show s1.heap.IsTuple a its.toArray from p') fun h' he hit hsz hk => wpAny_pyIter_enum he ?_
    have I2 : Inv X pins σ H1 { s1 with heap := h' } := I1.kept (t' := s1.toks) hk
    refine ⟨s1.heap.objs.size + 1, [s1.heap.objs.size + 1, s1.heap.objs.size], _, _, H1, rfl, I2, turn_enumT a (s1.heap.objs.size + 1) s1.heap.objs.size xs, ⟨⟨.none, he⟩, hit, Nat.succ_ne_self _, Nat.ne_of_lt hlt, Nat.ne_of_lt (Nat.lt_succ_of_lt hlt)⟩, fun b hb => ?_, q⟩
    have e' : b = s1.heap.objs.size + 1 ∨ b = s1.heap.objs.size := by simpa using hb
    have hle : s1.heap.objs.size ≤ b := by
      rcases e' with z | z
      · rw [z]; exact Nat.le_add_right _ _
      · rw [z]; exact Nat.le_refl _
    exact I1.fpOk hle (I1.hok.fresh hle)
/-! ### zip of three tuples -/
abbrev zS (a b c z TI TO i1 i2 i3 : Addr) : Nat → Heap → Prop := fun i h => IsZip h z TI TO .none ∧ IsTupOf3 h TI (.ref i1) (.ref i2) (.ref i3) ∧ (∃ a1 a2 a3, IsTupOf3 h TO a1 a2 a3) ∧ h.IsTupleIter i1 a i ∧ h.IsTupleIter i2 b i ∧ h.IsTupleIter i3 c i
theorem turn_zip3 {P : Program} {w : World} {K : PySem.W.Frag} {elts : List Expr} {kk : Nat} {tpos : Pos} {a b c z TI TO i1 i2 i3 : Addr} {n : Nat} {xs ys us : List V} (S : ZipSep3 z TI TO i1 i2 i3 [i1, a] [i2, b] [i3, c]) (n1 : a ≠ i1) (n2 : b ≠ i2) (n3 : c ≠ i3) (lx : xs.length = n) (ly : ys.length = n) (lu : us.length = n) :
    Turn P w K (.Tuple elts kk tpos) (Itg (fun H => SqT K H a xs ∧ SqT K H b ys ∧ SqT K H c us) n fun i => [xs.getD i .non, ys.getD i .non, us.getD i .non]) [z, TI, TO, i1, i2, i3] z (zS a b c z TI TO i1 i2 i3) where
  mem := by simp
  obj := fun i h st d hd => by
    obtain ⟨hz, hTI, ⟨a1, a2, a3, hTO⟩, ⟨o1, e1, _, d1⟩, ⟨o2, e2, _, d2⟩, ⟨o3, e3, _, d3⟩⟩ := st
    have e' : d = z ∨ d = TI ∨ d = TO ∨ d = i1 ∨ d = i2 ∨ d = i3 := by simpa using hd
    rcases e' with q | q | q | q | q | q
    · rw [q]; exact ⟨_, hz, fun v q => nomatch q⟩
    · rw [q]; exact ⟨_, hTI, fun v q => nomatch q⟩
    · rw [q]; exact ⟨_, hTO, fun v q => nomatch q⟩
    · rw [q]; exact ⟨o1, e1, fun v q => by rw [d1] at q; cases q⟩
    · rw [q]; exact ⟨o2, e2, fun v q => by rw [d2] at q; cases q⟩
    · rw [q]; exact ⟨o3, e3, fun v q => by rw [d3] at q; cases q⟩
  keep := fun i h h' st k => by
    obtain ⟨hz, hTI, ⟨a1, a2, a3, hTO⟩, h1, h2, h3⟩ := st
    exact ⟨k z (by simp) _ hz, k TI (by simp) _ hTI, ⟨a1, a2, a3, k TO (by simp) _ hTO⟩, h1.at fun o q => k i1 (by simp) o q, h2.at fun o q => k i2 (by simp) o q, h3.at fun o q => k i3 (by simp) o q⟩
  item := by
    intro X hP hw hK hc i pins s σ H E I hf st hg
    subst hP hw hK
    obtain ⟨hz, hTI, ⟨a1, a2, a3, hTO⟩, h1, h2, h3⟩ := st
    obtain ⟨⟨q1, q2, q3⟩, hi⟩ := hg
    obtain ⟨t1, r1, p1, _⟩ := I.tuple q1
    obtain ⟨t2, r2, p2, _⟩ := I.tuple q2
    obtain ⟨t3, r3, p3, _⟩ := I.tuple q3
    have l1 := r1.length
    have l2 := r2.length
    have l3 := r3.length
    obtain ⟨u1, hu1, ru1⟩ := r1.get (show xs[i]? = some xs[i] by simp [show i < xs.length by omega])
    obtain ⟨u2, hu2, ru2⟩ := r2.get (show ys[i]? = some ys[i] by simp [show i < ys.length by omega])
    obtain ⟨u3, hu3, ru3⟩ := r3.get (show us[i]? = some us[i] by simp [show i < us.length by omega])
    have hh := I.ok.hd hc
    have G := GoesN.zip3 (elts := elts) (x1 := kk) (pos := tpos) S (Draws.tuple (prog := X.prog) (w := X.w) (A := X.A.in1) hh i1 a n1 t1.toArray) (Draws.tuple (prog := X.prog) (w := X.w) (A := X.A.in1) hh i2 b n2 t2.toArray) (Draws.tuple (prog := X.prog) (w := X.w) (A := X.A.in1) hh i3 c n3 t3.toArray)
    refine G.goes i s (fun v s2 => ∃ x H', Inv X pins σ H' s2 ∧ RelV x v ∧ (Itg (fun H => SqT X.K H a xs ∧ SqT X.K H b ys ∧ SqT X.K H c us) n fun i => [xs.getD i .non, ys.getD i .non, us.getD i .non]).yld i H x H' ∧ zS a b c z TI TO i1 i2 i3 (i + 1) s2.heap ∧ ∀ b ∈ [z, TI, TO, i1, i2, i3], H' b = none) E (by simp; omega) ⟨hz, hTI, ⟨a1, a2, a3, hTO⟩, ⟨h1, p1⟩, ⟨h2, p2⟩, ⟨h3, p3⟩⟩ fun v h' tk y st' hk htk => ?_
    obtain ⟨q, x, y, u, rfl, hsz, hx, hy, hu, hT⟩ := y
    have ex : x = u1 := by
      have : t1.toArray[i]? = some u1 := by simpa using hu1
      rw [this] at hx
      exact (Option.some.inj hx).symm
    have ey : y = u2 := by
      have : t2.toArray[i]? = some u2 := by simpa using hu2
      rw [this] at hy
      exact (Option.some.inj hy).symm
    have eu : u = u3 := by
      have : t3.toArray[i]? = some u3 := by simpa using hu3
      rw [this] at hu
      exact (Option.some.inj hu).symm
    subst ex; subst ey; subst eu
    obtain ⟨I2, hn⟩ := item_of (us := [xs.getD i .non, ys.getD i .non, us.getD i .non]) (vs := [x, y, u]) (tk := tk) I hf (wr := [z, TO, i1, i2, i3]) (fun b hb => by
      simp only [List.mem_cons, List.not_mem_nil, or_false] at hb ⊢
      rcases hb with z | z | z | z | z <;> simp [z]) (fun d hd => by
      have e' : d = z ∨ d = TI ∨ d = TO ∨ d = i1 ∨ d = i2 ∨ d = i3 := by simpa using hd
      rcases e' with q | q | q | q | q | q
      · rw [q]; exact Heap.lt_size hz
      · rw [q]; exact Heap.lt_size hTI
      · rw [q]; exact Heap.lt_size hTO
      · rw [q]; obtain ⟨_, e1, _⟩ := h1; exact Heap.lt_size e1
      · rw [q]; obtain ⟨_, e1, _⟩ := h2; exact Heap.lt_size e1
      · rw [q]; obtain ⟨_, e1, _⟩ := h3; exact Heap.lt_size e1) hk hsz (by show 3 ≤ sizeLine; decide) (.cons (by simpa [show i < xs.length by omega] using ru1) (.cons (by simpa [show i < ys.length by omega] using ru2) (.cons (by simpa [show i < us.length by omega] using ru3) .nil))) hT
    obtain ⟨k1, k2, k3, k4, k5, k6⟩ := st'
    exact ⟨.ref q, _, I2, rfl, ⟨q, rfl, I.hok.fresh hsz, rfl⟩, ⟨k1, k2, k3, k4.1, k5.1, k6.1⟩, hn⟩
  done := by
    intro X hP hw hK hc i pins s σ H E I hf st hg
    subst hP hw hK
    obtain ⟨hz, hTI, hTO, h1, h2, h3⟩ := st
    obtain ⟨⟨q1, q2, q3⟩, hi⟩ := hg
    obtain ⟨t1, r1, p1, _⟩ := I.tuple q1
    obtain ⟨t2, r2, p2, _⟩ := I.tuple q2
    obtain ⟨t3, r3, p3, _⟩ := I.tuple q3
    have l1 := r1.length
    have l2 := r2.length
    have l3 := r3.length
    have hh := I.ok.hd hc
    have G := GoesN.zip3 (elts := elts) (x1 := kk) (pos := tpos) S (Draws.tuple (prog := X.prog) (w := X.w) (A := X.A.in1) hh i1 a n1 t1.toArray) (Draws.tuple (prog := X.prog) (w := X.w) (A := X.A.in1) hh i2 b n2 t2.toArray) (Draws.tuple (prog := X.prog) (w := X.w) (A := X.A.in1) hh i3 c n3 t3.toArray)
    have en : min (min t1.toArray.size t2.toArray.size) t3.toArray.size = i := by simp; omega
    rw [en] at G
    refine G.stops s (fun s1 => Inv X pins σ H s1) E ⟨hz, hTI, hTO, ⟨h1, p1⟩, ⟨h2, p2⟩, ⟨h3, p3⟩⟩ fun h' tk hk htk => I.turnedL (t' := tk) (ch := [z, TI, TO, i1, i2, i3]) (fun b o hb q => hk b o (fun z' => hb ?_) q) hf
    simp only [List.mem_cons, List.not_mem_nil, or_false] at z' ⊢
    rcases z' with e | e | e | e | e <;> simp [e]
  self := fun A i s Q E st h => wpAny_pyIter_zip st.1 h
def iZip3 (K : PySem.W.Frag) (ta : TA) : TI := fun σ H R => ta σ H fun vs H1 => ∃ a b c xs ys us, vs = [.ref a, .ref b, .ref c] ∧ SqT K H1 a xs ∧ SqT K H1 b ys ∧ SqT K H1 c us ∧ ys.length = xs.length ∧ us.length = xs.length ∧
  R (Itg (fun H => SqT K H a xs ∧ SqT K H b ys ∧ SqT K H c us) xs.length fun i => [xs.getD i .non, ys.getD i .non, us.getD i .non]) H1
theorem pi_zip3 {X : Cx} {e e2 e3 : Expr} {ta : TA} {p pos tpos : Pos} {elts : List Expr} {kk : Nat} (hg : Gl X "zip") (hm : X.mg "zip" = none) (ha : PA X [e, e2, e3] ta)
    (hs : starEach [e, e2, e3] X.env = (false, eval e X.env) :: starEach [e2, e3] X.env := by rfl) (hpl : (backTo pos (starEach [e2, e3] X.env)).any (·.1) = false := by rfl) :
    PI X (.Tuple elts kk tpos) (.Call (.Name "zip" p) [e, e2, e3] [] pos) (iZip3 X.K ta) := by
  refine ⟨fun pins s σ H R I h => ?_⟩
  refine Call_ (ld_blt I hg hm PyProof.Rows.boot_zip (PyProof.Rows.callWith_type1 (thn (ha.run pos pins s σ H _ I h) fun us s1 ⟨vs, H1, I1, r1, q1⟩ => ?_) hs hpl))
  obtain ⟨a, b, c, xs, ys, us, ex, hq1, hq2, hq3, ly, lu, q⟩ := q1
  subst ex
  cases r1 with
  | cons r rr =>
    cases rr with
    | cons r' rr =>
      cases rr with
      | cons r'' rr =>
        cases rr
        cases r
        cases r'
        cases r''
        obtain ⟨t1, rv1, p1, _⟩ := I1.tuple hq1
        obtain ⟨t2, rv2, p2, _⟩ := I1.tuple hq2
        obtain ⟨t3, rv3, p3, _⟩ := I1.tuple hq3
        obtain ⟨o1, ho1, _⟩ := id p1
        obtain ⟨o2, ho2, _⟩ := id p2
        obtain ⟨o3, ho3, _⟩ := id p3
        refine zip_begins3 (begins_tuple a t1.toArray) (begins_tuple b t2.toArray) (begins_tuple c t3.toArray) p1 p2 p3 fun h' hz hTI hTO h1 h2 h3 hsz hk => wpAny_pyIter_zip hz ?_
        have I2 : Inv X pins σ H1 { s1 with heap := h' } := I1.kept (t' := s1.toks) hk
        have S := zip_sep3 (N := s1.heap.objs.size) (fp1 := [a]) (fp2 := [b]) (fp3 := [c]) (fun d hd => by rw [List.mem_singleton.mp hd]; exact Heap.lt_size ho1) (fun d hd => by rw [List.mem_singleton.mp hd]; exact Heap.lt_size ho2) (fun d hd => by rw [List.mem_singleton.mp hd]; exact Heap.lt_size ho3)
        have na : a ≠ s1.heap.objs.size := Nat.ne_of_lt (Heap.lt_size ho1)
        have nb : b ≠ s1.heap.objs.size + 1 := Nat.ne_of_lt (Nat.lt_succ_of_lt (Heap.lt_size ho2))
        have nc : c ≠ s1.heap.objs.size + 2 := Nat.ne_of_lt (Nat.lt_succ_of_lt (Nat.lt_succ_of_lt (Heap.lt_size ho3)))
        refine ⟨s1.heap.objs.size + 5, _, _, _, H1, rfl, I2, turn_zip3 S na nb nc rfl ly lu, ⟨hz, hTI, ⟨_, _, _, hTO⟩, ⟨_, h1, rfl, rfl⟩, ⟨_, h2, rfl, rfl⟩, ⟨_, h3, rfl, rfl⟩⟩, fun d hd => ?_, q⟩
        have e' : d = s1.heap.objs.size + 5 ∨ d = s1.heap.objs.size + 3 ∨ d = s1.heap.objs.size + 4 ∨ d = s1.heap.objs.size ∨ d = s1.heap.objs.size + 1 ∨ d = s1.heap.objs.size + 2 := by simpa using hd
        have hle : s1.heap.objs.size ≤ d := by
          rcases e' with z | z | z | z | z | z
          · rw [z]; exact Nat.le_add_right _ _
          · rw [z]; exact Nat.le_add_right _ _
          · rw [z]; exact Nat.le_add_right _ _
          · rw [z]; exact Nat.le_refl _
          · rw [z]; exact Nat.le_add_right _ _
          · rw [z]; exact Nat.le_add_right _ _
        exact I1.fpOk hle (I1.hok.fresh hle)
section
variable {X : Cx} {e tg : Expr} {ρ : List Sl} {pos : Pos} {ts : List T}
theorem i_enumT {elts : List Expr} {kk : Nat} {tpos p : Pos} (h : Py X e ρ (.tup ts)) (hm : X.mg "enumerate" = none) (hg : Gl X "enumerate" := by rfl) (hs : starEach [e] X.env = (false, eval e X.env) :: starEach [] X.env := by rfl) :
    PiI X (.Tuple elts kk tpos) (.Call (.Name "enumerate" p) [e] [] pos) ρ ((List.range ts.length).map fun i => T.tup [natT i, ts.getD i .non]) := PiI.of (pi_enumT hg hm (pa_cons pe_g pa_nil hs) hs) fun σ H C B st => g_useW h st fun x H1 s1 q1 w1 => by
  obtain ⟨a, xs, rfl, hsx, hmx⟩ := Im.tup_eq q1
  have st1 := st.mono s1
  have l1 := hmx.length
  have c1 := st1.calm_t hsx
  have m1 := st1.calm_ims hmx
  refine ⟨a, xs, rfl, hsx, s1, ?_⟩
  rw [← l1]
  refine itok_new (w1.tup hsx) (fun H s => same_t s c1) fun i hi => .cons (.int _) (.one ?_)
  obtain ⟨v, hv, im⟩ := m1.get (i := i) (t := ts.getD i .non) (by simp [show i < ts.length by omega])
  rw [List.getD_eq_getElem?_getD, hv]
  exact im
theorem i_zip3 {e2 e3 : Expr} {ss us : List T} {elts : List Expr} {kk : Nat} {tpos p : Pos} (h : Py X e ρ (.tup ts)) (h2 : Py X e2 ρ (.tup ss)) (h3 : Py X e3 ρ (.tup us)) (l2 : ss.length = ts.length) (l3 : us.length = ts.length) (hm : X.mg "zip" = none) (hg : Gl X "zip" := by rfl)
    (hs : starEach [e, e2, e3] X.env = (false, eval e X.env) :: starEach [e2, e3] X.env := by rfl) (hs2 : starEach [e2, e3] X.env = (false, eval e2 X.env) :: starEach [e3] X.env := by rfl) (hs3 : starEach [e3] X.env = (false, eval e3 X.env) :: starEach [] X.env := by rfl) (hpl : (backTo pos (starEach [e2, e3] X.env)).any (·.1) = false := by rfl) :
    PiI X (.Tuple elts kk tpos) (.Call (.Name "zip" p) [e, e2, e3] [] pos) ρ ((List.range ts.length).map fun i => T.tup [ts.getD i .non, ss.getD i .non, us.getD i .non]) := PiI.of (pi_zip3 hg hm (pa_cons pe_g (pa_cons pe_g (pa_cons pe_g pa_nil hs3) hs2) hs) hs hpl) fun σ H C B st => g_useW h st fun x H1 s1 q1 w1 => g_use h2 (st.mono s1) fun y H2 s2 q2 => g_use h3 (st.mono (s1.trans s2)) fun z H3 s3 q3 => by
  obtain ⟨a, xs, rfl, hs1, hm1⟩ := Im.tup_eq q1
  obtain ⟨b, ys, rfl, hs2, hm2⟩ := Im.tup_eq q2
  obtain ⟨c, zs, rfl, hs3, hm3⟩ := Im.tup_eq q3
  have st3 := st.mono ((s1.trans s2).trans s3)
  have e1 := hm1.length
  have e2 := hm2.length
  have e3 := hm3.length
  have c1 := st3.calm_t (same_t (s2.trans s3) hs1)
  have c2 := st3.calm_t (same_t s3 hs2)
  have c3 := st3.calm_t hs3
  have m1 := st3.calm_ims (hm1.mono (s2.trans s3))
  have m2 := st3.calm_ims (hm2.mono s3)
  have m3 := st3.calm_ims hm3
  refine ⟨a, b, c, xs, ys, zs, rfl, same_t (s2.trans s3) hs1, same_t s3 hs2, hs3, by omega, by omega, (s1.trans s2).trans s3, ?_⟩
  rw [← e1]
  have at9 : ∀ {vs : List V} {ls : List T} {i : Nat}, ImAll X.K (calm σ ρ H3) vs ls → i < ls.length → Im X.K (calm σ ρ H3) (vs.getD i .non) (ls.getD i .non) := fun {vs ls i} m hi => by
    obtain ⟨v, hv, im⟩ := m.get (i := i) (t := ls.getD i .non) (by simp [hi])
    rw [List.getD_eq_getElem?_getD, hv]
    exact im
  exact itok_new (w1.tup hs1) (fun H s => ⟨same_t s c1, same_t s c2, same_t s c3⟩) fun i hi => .cons (at9 m1 (by omega)) (.cons (at9 m2 (by omega)) (.one (at9 m3 (by omega))))
end
end Nine
set_option maxHeartbeats 4000000
/-! K9M: what the defs compute, in plain Lean; a loop as a fold. -/
namespace Nine
open PySem PySem.Spec PyProof.Rows L2
mutual
def T.d : T → PyData
  | .non => .none
  | .bl b => .bool b
  | .int i => .int i
  | .str x => .str x
  | .tup ts => .tuple (T.ds ts)
  | .tuf xs => .tuple (xs.map PyData.str)
  | .lst ts => .list (T.ds ts)
def T.ds : List T → List PyData
  | [] => []
  | t :: ts => t.d :: T.ds ts
end
theorem ds_map : ∀ ts : List T, T.ds ts = ts.map T.d
  | [] => by simp [T.ds]
  | t :: ts => by simp [T.ds, ds_map ts]
/-! ### sets, put in order -/
def insU {α : Type} (lt : α → α → Bool) (x : α) : List α → List α
  | [] => [x]
  | y :: l => if lt x y then x :: y :: l else if lt y x then y :: insU lt x l else y :: l
def ordU {α : Type} (lt : α → α → Bool) (l : List α) : List α := l.foldr (insU lt) []
/-- a strict line -/
structure Lin {α : Type} (lt : α → α → Bool) : Prop where
  irr : ∀ a, lt a a = false
  tr : ∀ a b c, lt a b = true → lt b c = true → lt a c = true
  tri : ∀ a b, lt a b = false → lt b a = false → a = b
section
variable {α : Type} {lt : α → α → Bool}
theorem mem_insU (L : Lin lt) {x z : α} : ∀ {l : List α}, z ∈ insU lt x l ↔ z = x ∨ z ∈ l
  | [] => by simp [insU]
  | y :: l => by
    unfold insU
    by_cases h1 : lt x y = true
    · rw [if_pos h1, List.mem_cons]
    · rw [if_neg h1]
      by_cases h2 : lt y x = true
      · rw [if_pos h2, List.mem_cons, mem_insU L, List.mem_cons]
        constructor
        · rintro (h | h | h)
          · exact .inr (.inl h)
          · exact .inl h
          · exact .inr (.inr h)
        · rintro (h | h | h)
          · exact .inr (.inl h)
          · exact .inl h
          · exact .inr (.inr h)
      · rw [if_neg h2]
        have e : x = y := L.tri _ _ (by simpa using h1) (by simpa using h2)
        subst e
        rw [List.mem_cons]
        constructor
        · exact .inr
        · rintro (h | h)
          · exact .inl h
          · exact h
theorem mem_ordU (L : Lin lt) {z : α} : ∀ {l : List α}, z ∈ ordU lt l ↔ z ∈ l
  | [] => Iff.rfl
  | x :: l => by
    show z ∈ insU lt x (ordU lt l) ↔ _
    rw [mem_insU L, mem_ordU L, List.mem_cons]
def Asc (lt : α → α → Bool) (l : List α) : Prop := l.Pairwise fun a b => lt a b = true
theorem asc_insU (L : Lin lt) {x : α} : ∀ {l : List α}, Asc lt l → Asc lt (insU lt x l)
  | [], _ => List.pairwise_singleton _ _
  | y :: l, h => by
    obtain ⟨h1, h2⟩ := List.pairwise_cons.mp h
    unfold insU
    by_cases hx : lt x y = true
    · rw [if_pos hx]
      refine List.pairwise_cons.mpr ⟨fun z hz => ?_, h⟩
      rcases List.mem_cons.mp hz with e | hz
      · rw [e]; exact hx
      · exact L.tr _ _ _ hx (h1 z hz)
    · rw [if_neg hx]
      by_cases hy : lt y x = true
      · rw [if_pos hy]
        refine List.pairwise_cons.mpr ⟨fun z hz => ?_, asc_insU L h2⟩
        rcases (mem_insU L).mp hz with e | hz
        · rw [e]; exact hy
        · exact h1 z hz
      · rw [if_neg hy]; exact h
theorem asc_ordU (L : Lin lt) : ∀ {l : List α}, Asc lt (ordU lt l)
  | [] => .nil
  | _ :: _ => asc_insU L (asc_ordU L)
theorem asc_uniq (L : Lin lt) : ∀ {l m : List α}, Asc lt l → Asc lt m → (∀ z, z ∈ l ↔ z ∈ m) → l = m
  | [], m, _, _, h => by
    cases m with
    | nil => rfl
    | cons y m => exact absurd ((h y).mpr List.mem_cons_self) (by simp)
  | x :: l, m, hl, hm, h => by
    cases m with
    | nil => exact absurd ((h x).mp List.mem_cons_self) (by simp)
    | cons y m =>
      obtain ⟨l1, l2⟩ := List.pairwise_cons.mp hl
      obtain ⟨m1, m2⟩ := List.pairwise_cons.mp hm
      have e : x = y := by
        rcases List.mem_cons.mp ((h x).mp List.mem_cons_self) with e | hx
        · exact e
        · rcases List.mem_cons.mp ((h y).mpr List.mem_cons_self) with e | hy
          · exact e.symm
          · have := L.tr _ _ _ (m1 x hx) (l1 y hy)
            rw [L.irr] at this
            cases this
      subst e
      have nx : ∀ {k : List α}, (∀ b ∈ k, lt x b = true) → x ∉ k := fun {k} hk z => by
        have := hk x z
        rw [L.irr] at this
        cases this
      rw [asc_uniq L l2 m2 fun z => ?_]
      have hz := h z
      rw [List.mem_cons, List.mem_cons] at hz
      constructor
      · intro hzl
        rcases hz.mp (.inr hzl) with e | h
        · rw [e] at hzl; exact absurd hzl (nx l1)
        · exact h
      · intro hzm
        rcases hz.mpr (.inr hzm) with e | h
        · rw [e] at hzm; exact absurd hzm (nx m1)
        · exact h
theorem ordU_of (L : Lin lt) {l m : List α} (h : Asc lt m) (e : ∀ z, z ∈ m ↔ z ∈ l) : ordU lt l = m := asc_uniq L (asc_ordU L) h fun z => (mem_ordU L).trans (e z).symm
theorem ordU_map {β : Type} {lt2 : β → β → Bool} {f : α → β} (h : ∀ a b, lt2 (f a) (f b) = lt a b) : ∀ l : List α, ordU lt2 (l.map f) = (ordU lt l).map f
  | [] => rfl
  | x :: l => by
    have ins : ∀ l : List α, insU lt2 (f x) (l.map f) = (insU lt x l).map f := by
      intro l
      induction l with
      | nil => rfl
      | cons y l ih =>
        rw [List.map_cons]
        unfold insU
        rw [h, h]
        split
        · rfl
        · split
          · rw [ih]; rfl
          · rfl
    show insU lt2 (f x) (ordU lt2 (l.map f)) = (insU lt x (ordU lt l)).map f
    rw [ordU_map h l, ins]
end
def ltD (t u : T) : Bool := W.dataLt t.d u.d
def ordT (ts : List T) : List T := ordU ltD ts
theorem lin_enc {α : Type} {f : α → PyData} (inj : ∀ a b, W.keyToks (f a) = W.keyToks (f b) → a = b) : Lin fun a b => W.dataLt (f a) (f b) :=
  ⟨fun a => lex_irrefl _, fun a b c => lex_trans _ _ _, fun a b h1 h2 => inj a b (lex_total _ _ h1 h2)⟩
def ltN (x y : Nat) : Bool := decide (x < y)
theorem lin_nat : Lin ltN := ⟨fun a => by simp [ltN], fun a b c => by simp only [ltN, decide_eq_true_eq]; omega, fun a b => by simp only [ltN, decide_eq_false_iff_not]; omega⟩
theorem ltD_nat (a b : Nat) : ltD (natT a) (natT b) = ltN a b := by
  show W.dataLt (T.d (.int (a : Int))) (T.d (.int (b : Int))) = _
  simp only [T.d]
  rw [W.dataLt_int, ltN, Bool.eq_iff_iff]
  simp
def ltS (x y : Str) : Bool := W.dataLt (.str x) (.str y)
theorem lin_str : Lin ltS := lin_enc (f := PyData.str) fun a b h => by
  simp only [W.keyToks, List.cons.injEq, and_true] at h
  exact W.str_of_cps (Sum.inr.inj h)
theorem ltD_str (a b : Str) : ltD (.str a) (.str b) = ltS a b := by
  show W.dataLt (T.d (.str a)) (T.d (.str b)) = _
  simp only [T.d]
  rfl
/-! ### ROWs -/
def spotsL (r : Rw) : List Nat := 0 :: r.ms ++ [r.mv.length]
def markL (r : Rw) (n : Nat) : Nat := maxL ((spotsL r).filter fun s => decide (s ≤ n))
abbrev Ct := Str → T
def upC (h : Ct) (g : Str) (t : T) : Ct := fun c => if c = g then t else h c
def termF (m : Mv) (h : Ct) : T := if m.nm = "copy" then h (m.rd.getD 0 "") else .tup [.str m.nm, .tup (m.rd.map h)]
def stepF (m : Mv) (h : Ct) : Ct := upC h m.gl (termF m h)
def oldT (c : Str) : T := .tup [.str "old", .str c]
def spoT (n : Nat) : T := .tup [.str "spoilt", natT n]
/-- the moves lo .. hi - 1 one after the other -/
def runR (r : Rw) (lo hi : Nat) (h : Ct) : Ct := ((r.mv.take hi).drop lo).foldl (fun h m => stepF m h) h
def lastC (fs : List Ct) : Ct := fs.getLast?.getD oldT
def goSt (r : Rw) (fs : List Ct) (n : Nat) : List Ct := fs ++ [stepF (r.mv.getD n ⟨"", [], ""⟩) (lastC fs)]
def fsRun (r : Rw) (fs : List Ct) (lo hi : Nat) : List Ct := (List.range' lo (hi - lo)).foldl (goSt r) fs
def alSt (r : Rw) (p : Option Nat) (st : List Ct × Nat) (i : Nat) : List Ct × Nat :=
  (fsRun r st.1 st.2 (p.getD 0) ++ [upC (lastC (fsRun r st.1 st.2 (p.getD 0))) (r.mv.getD (p.getD 0) ⟨"", [], ""⟩).gl (spoT i)], markL r (p.getD 0))
def alongL (r : Rw) (p : Option Nat) : List Ct :=
  let st := (List.range p.toList.length).foldl (alSt r p) ([oldT], 0)
  fsRun r st.1 st.2 r.mv.length
/-- END of the ROW without a loss, with one at k -/
def endC (r : Rw) : Option Nat → Ct
  | none => runR r 0 r.mv.length oldT
  | some k => runR r (markL r k) r.mv.length (upC (runR r 0 k oldT) (r.mv.getD k ⟨"", [], ""⟩).gl (spoT 0))
def endL (r : Rw) (p : Option Nat) : List T := r.want.map (endC r p)
def mvAt (r : Rw) (n : Nat) : Mv := r.mv.getD n ⟨"", [], ""⟩
def rdAt (r : Rw) (n : Nat) : List Str := (mvAt r n).rd
def glAt (r : Rw) (n : Nat) : Str := (mvAt r n).gl
/-- the moves that write c -/
def writesL (r : Rw) (c : Str) : List Nat := (List.range r.mv.length).filter fun n => decide (glAt r n = c)
def writerL (r : Rw) (c : Str) (s : Nat) : Option Nat := ((writesL r c).filter fun n => decide (n < s)).getLast?
def optT : Option Nat → T
  | none => .non
  | some n => natT n
def sourcesL (r : Rw) (n : Nat) : List (Option Nat) := (rdAt r n).map fun c => writerL r c n
def usersL (r : Rw) (n : Nat) : List Nat := (List.range' (n + 1) (r.mv.length - (n + 1))).filter fun o => decide (some n ∈ sourcesL r o)
def keptB (r : Rw) (n : Nat) : Bool := decide (glAt r n ∈ r.want) && decide (writerL r (glAt r n) r.mv.length = some n)
/-- counting's turns, from behind -/
def cntStep (r : Rw) (found : List Nat) (n : Nat) : List Nat := if keptB r n || (usersL r n).any (fun o => decide (o ∈ found)) then found ++ [n] else found
def cntL (r : Rw) : List Nat := ordU ltN (((List.range r.mv.length).reverse).foldl (cntStep r) [])
def readsFirstL (r : Rw) (lo hi : Nat) : List (Nat × Str) :=
  (List.range' lo (hi - lo)).foldl (fun found n => if n ∈ cntL r then found ++ ((rdAt r n).filter fun c => !decide (c ∈ (List.range' lo (n - lo)).map (glAt r))).map fun c => (n, c) else found) []
def stretchesL (r : Rw) : List (Nat × Nat) := (List.range ((spotsL r).length - 1)).map fun p => ((spotsL r).getD p 0, (spotsL r).getD (p + 1) 0)
abbrev Hz := Nat × Str × Nat
def hazStep (r : Rw) (hi : Nat) (found : List Hz) (p : Nat × Str) : List Hz := found ++ ((List.range' p.1 (hi - p.1)).filter fun l => decide (glAt r l = p.2)).map fun l => (p.1, p.2, l)
def hzT (h : Hz) : T := .tup [natT h.1, .str h.2.1, natT h.2.2]
def ltH (a b : Hz) : Bool := W.dataLt (hzT a).d (hzT b).d
theorem lin_hz : Lin ltH := lin_enc (f := fun h => (hzT h).d) fun a b h => by
  obtain ⟨a1, a2, a3⟩ := a
  obtain ⟨b1, b2, b3⟩ := b
  simp only [hzT, natT, T.d, T.ds, W.keyToks, W.keyToksAll, List.cons_append, List.nil_append, List.cons.injEq, Sum.inl.injEq, Sum.inr.injEq, and_true, true_and] at h
  obtain ⟨h1, h2, h3⟩ := h
  rw [show a1 = b1 by omega, W.str_of_cps h2, show a3 = b3 by omega]
theorem ltD_hz (a b : Hz) : ltD (hzT a) (hzT b) = ltH a b := rfl
def hazRaw (r : Rw) : List Hz := (stretchesL r).foldl (fun found s => (readsFirstL r s.1 s.2).foldl (hazStep r s.2) found) []
def hazL (r : Rw) : List Hz := ordU ltH (hazRaw r)
end Nine
set_option maxHeartbeats 4000000
/-! K9R: the defs on ROWs, walked. -/
namespace Nine
open PySem PySem.Spec PyProof.Rows L2
theorem u1 {k : Nat} {A : Around} (r : Room k A) : A.units + 1 < cLine := by have := r.units; omega
/-! ### what holds of a ROW -/
theorem asc_ord {l : List Nat} (h : l.Pairwise (· < ·)) : ordU ltN l = l := ordU_of lin_nat (h.imp fun {a b} z => decide_eq_true z) fun _ => Iff.rfl
theorem spots_asc {r : Rw} (o : r.Ok) : (spotsL r).Pairwise (· < ·) := by
  unfold spotsL
  rw [List.cons_append, List.pairwise_cons]
  refine ⟨fun y hy => ?_, List.pairwise_append.mpr ⟨o.asc, List.pairwise_singleton _ _, fun x hx y hy => ?_⟩⟩
  · rcases List.mem_append.mp hy with h | h
    · exact (o.mb y h).1
    · rw [List.mem_singleton.mp h]; exact o.pos
  · rw [List.mem_singleton.mp hy]; exact (o.mb x hx).2
theorem asc_len : ∀ {l : List Nat} {n : Nat}, l.Pairwise (· < ·) → (∀ x ∈ l, x < n) → l.length ≤ n := fun {l n} h hb => by
  have key : ∀ (l : List Nat) (a : Nat), l.Pairwise (· < ·) → (∀ x ∈ l, a ≤ x ∧ x < n) → l.length ≤ n - a := by
    intro l
    induction l with
    | nil => intro a _ _; exact Nat.zero_le _
    | cons x l ih =>
      intro a h hb
      obtain ⟨h1, h2⟩ := List.pairwise_cons.mp h
      have := ih (x + 1) h2 fun y hy => ⟨h1 y hy, (hb y (List.mem_cons_of_mem _ hy)).2⟩
      have hx := hb x List.mem_cons_self
      rw [List.length_cons]
      omega
  have := key l 0 h fun x hx => ⟨Nat.zero_le _, hb x hx⟩
  omega
theorem spots_len {r : Rw} (o : r.Ok) : (spotsL r).length ≤ 11 := by
  have := asc_len (spots_asc o) (n := r.mv.length + 1) fun x hx => by
    unfold spotsL at hx
    rw [List.cons_append] at hx
    rcases List.mem_cons.mp hx with e | h
    · rw [e]; omega
    · rcases List.mem_append.mp h with h | h
      · have := (o.mb x h).2; omega
      · rw [List.mem_singleton.mp h]; omega
  have := o.lm
  omega
theorem spots_le {r : Rw} (o : r.Ok) {x : Nat} (hx : x ∈ spotsL r) : x ≤ r.mv.length := by
  unfold spotsL at hx
  rw [List.cons_append] at hx
  rcases List.mem_cons.mp hx with e | h
  · rw [e]; omega
  · rcases List.mem_append.mp h with h | h
    · have := (o.mb x h).2; omega
    · rw [List.mem_singleton.mp h]; omega
def kvsOf (cells : List Str) (h : Ct) : List (Str × T) := cells.map fun c => (c, h c)
theorem dGet_kvs {h : Ct} {c : Str} : ∀ {cells : List Str}, c ∈ cells → dGet (kvsOf cells h) c = some (h c)
  | x :: l, hc => by
    unfold kvsOf dGet
    rw [List.map_cons, List.lookup_cons]
    by_cases e : c = x
    · subst e; simp
    · have : (c == x) = false := by simp [e]
      rw [this]
      exact dGet_kvs ((List.mem_cons.mp hc).resolve_left e)
theorem kvs_any {h : Ct} {g : Str} {cells : List Str} : ((kvsOf cells h).any fun p => p.1 == g) = decide (g ∈ cells) := by
  unfold kvsOf
  rw [List.any_map, Bool.eq_iff_iff, List.any_eq_true, decide_eq_true_eq]
  constructor
  · rintro ⟨x, hx, e⟩
    have e' : (x == g) = true := e
    rw [← beq_iff_eq.mp e']
    exact hx
  · intro hg
    exact ⟨g, hg, (show (g == g) = true by simp)⟩
theorem dPut_kvs {h : Ct} {g : Str} {t : T} {cells : List Str} (hg : g ∈ cells) : dPut (kvsOf cells h) g t = kvsOf cells (upC h g t) := by
  unfold dPut
  rw [kvs_any, if_pos (decide_eq_true hg)]
  unfold kvsOf
  rw [List.map_map]
  refine List.map_congr_left fun c _ => ?_
  show (if (c == g) = true then (c, t) else (c, h c)) = (c, upC h g t c)
  unfold upC
  by_cases e : c = g
  · subst e; simp
  · have : (c == g) = false := by simp [e]
    rw [this, if_neg e]
    simp
theorem put_all {h : Ct} : ∀ {cells : List Str}, cells.Nodup → cells.foldl (fun d c => dPut d c (h c)) [] = kvsOf cells h := by
  have key : ∀ (l done : List Str), (done ++ l).Nodup → l.foldl (fun d c => dPut d c (h c)) (kvsOf done h) = kvsOf (done ++ l) h := by
    intro l
    induction l with
    | nil => intro done _; rw [List.append_nil]; rfl
    | cons c l ih =>
      intro done nd
      have hc : c ∉ done := fun z => (List.nodup_append.mp nd).2.2 c z c List.mem_cons_self rfl
      rw [List.foldl_cons]
      have e : dPut (kvsOf done h) c (h c) = kvsOf (done ++ [c]) h := by
        unfold dPut
        rw [kvs_any, if_neg (by rw [decide_eq_true_eq]; exact hc)]
        unfold kvsOf
        rw [List.map_append]
        rfl
      rw [e, ih (done ++ [c]) (by rw [List.append_assoc]; exact nd), List.append_assoc]
      rfl
  intro cells nd
  exact key cells [] nd
section
variable {P : Program} {w : World} {K : PySem.W.Frag} {mg : Str → Option Value} {base : Heap}
def r_set_n (as : List A4) (r : A4) : Prop := ∃ ns : List Nat, ns.length < 64 ∧ as = [.s (ns.map natT)] ∧ r = .t (.tup ((ordU ltN ns).map natT))
def r_spots (as : List A4) (r : A4) : Prop := ∃ rw : Rw, rw.Ok ∧ as = [.t rw.t] ∧ r = .t (.tup ((spotsL rw).map natT))
theorem ok_spots (E : E9 K mg) {k : Nat} (G1 : Ok9 P w base k E.f_set_of r_set_n) : Ok9 P w base (k + 1) E.f_spots r_spots := ok9 sc_spots fun cdv A outer s H Ex as r hr hl h => by
  obtain ⟨rw, o, rfl, rfl⟩ := h
  have hlm := o.lm
  have hsl := spots_len o
  refine ru_ret (y_call (f := E.f_set_of) G1 hr (a1 (PyN.arg (PyL.eq (y_lst (b_cons y_int (b_star (y_fd 3 (yv 0) E.c_PARTS_rows) (b_cons (y_len (y_fd 2 (yv 0) E.c_PAIR) E.b_len) b_nil))) ?_) (y := (spotsL rw).map natT) ?_))) ⟨spotsL rw, by omega, rfl, rfl⟩) ?_
  · unfold spotsL at hsl
    simp at hsl ⊢
    omega
  · unfold spotsL
    simp [natT]
  · rw [asc_ord (spots_asc o)]
def r_stretches (as : List A4) (r : A4) : Prop := ∃ rw : Rw, rw.Ok ∧ as = [.t rw.t] ∧ r = .t (.tup ((stretchesL rw).map fun p => T.tup [natT p.1, natT p.2]))
theorem ok_stretches (E : E9 K mg) {k : Nat} (G1 : Ok9 P w base k E.f_spots r_spots) : Ok9 P w base (k + 1) E.f_stretches r_stretches := ok9 sc_stretches fun cdv A outer s H Ex as r hr hl h => by
  obtain ⟨rw, o, rfl, rfl⟩ := h
  have hsl := spots_len o
  have h2 : 2 ≤ (spotsL rw).length := by unfold spotsL; simp
  refine ru_set 1 sc_stretches.nd (y_call (f := E.f_spots) G1 hr (a1 (yv 0)) ⟨rw, o, rfl, rfl⟩) ?_
  refine ru_ret (y_tupleL (PyN.arg ?q) E.b_tuple) rfl
  refine PyL.eq (y_lm (own := [("place", 2)]) (List.range ((spotsL rw).length - 1)) natT (fun p => T.tup [natT ((spotsL rw).getD p 0), natT ((spotsL rw).getD (p + 1) 0)]) [2] rfl sc_stretches.nd
    ((i_rng (n := (spotsL rw).length - 1) ?_ (by omega) E.b_range).c) (blkOk_by (N := n_stretches) (sc := defScope s_stretches) (by decide +kernel)) (by decide) ?_) ?_
  · refine Py.eq (y_sub (y_len (yv 1) E.b_len) y_int) ?_
    unfold natT; rw [List.length_map]; congr 1; omega
  · intro p hp
    have hp' := List.mem_range.mp hp
    refine ⟨_, fun s H C cl fp => ⟨g_name 2 sc_stretches.nd, y_tup (b_cons (y_ixM (yv 1) (yv 2) ?_) (b_cons (y_ixM (yv 1) (y_addN (yv 2) (y_int (i := (1 : Nat)))) ?_) b_nil))⟩⟩
    · rw [List.getD_eq_getElem?_getD]; simp [show p < (spotsL rw).length by omega]
    · rw [List.getD_eq_getElem?_getD]; simp [show p + 1 < (spotsL rw).length by omega]
  · unfold stretchesL
    rw [List.map_map]
    rfl
end
end Nine
set_option maxHeartbeats 4000000
/-! K9R2: terms, walked. -/
namespace Nine
open PySem PySem.Spec PyProof.Rows L2
section
variable {P : Program} {w : World} {K : PySem.W.Frag} {mg : Str → Option Value} {base : Heap}
def r_check_move (as : List A4) (r : A4) : Prop := ∃ (rw : Rw) (n : Nat), n < rw.mv.length ∧ as = [.t rw.t, .t (natT n)] ∧ r = .t .non
theorem ok_check_move (E : E9 K mg) {k : Nat} : Ok9 P w base (k + 1) E.f_check_move r_check_move := ok9 sc_check_move fun cdv A outer s H Ex as r hr hl h => by
  obtain ⟨rw, n, hn, rfl, rfl⟩ := h
  refine ru_skip (Pt.eq (t_not (t_chain (i := 0) (j := (n : Int)) (l := (rw.mv.length : Int)) op_le op_lt y_int (yv 1) ?_)) ?_) (ru_end rfl)
  · refine Py.eq (y_len (y_fd 2 (yv 0) E.c_PAIR) E.b_len) ?_
    rw [List.length_map]
  · simp; omega
def r_check_spot (as : List A4) (r : A4) : Prop := ∃ (rw : Rw) (n : Nat), n ≤ rw.mv.length ∧ as = [.t rw.t, .t (natT n)] ∧ r = .t .non
theorem ok_check_spot (E : E9 K mg) {k : Nat} : Ok9 P w base (k + 1) E.f_check_spot r_check_spot := ok9 sc_check_spot fun cdv A outer s H Ex as r hr hl h => by
  obtain ⟨rw, n, hn, rfl, rfl⟩ := h
  refine ru_skip (Pt.eq (t_not (t_chain (i := 0) (j := (n : Int)) (l := (rw.mv.length : Int)) op_le op_le y_int (yv 1) ?_)) ?_) (ru_end rfl)
  · refine Py.eq (y_len (y_fd 2 (yv 0) E.c_MOVES) E.b_len) ?_
    rw [List.length_map]
  · simp; omega
def r_mark (as : List A4) (r : A4) : Prop := ∃ (rw : Rw) (n : Nat), rw.Ok ∧ as = [.t rw.t, .t (natT n)] ∧ r = .t (natT (markL rw n))
theorem ok_mark_losses (E : E9 K mg) {k : Nat} (G1 : Ok9 P w base k E.f_spots r_spots) : Ok9 P w base (k + 1) E.f_mark_below_losses r_mark := ok9 sc_mark_below_losses fun cdv A outer s H Ex as r hr hl h => by
  obtain ⟨rw, n, o, rfl, rfl⟩ := h
  refine ru_ret (y_maxN (ns := (spotsL rw).filter fun s => decide (s ≤ n)) rfl (PyN.arg ?q) ?_ E.b_max) rfl
  case q =>
    exact y_lc (own := [("spot", 2)]) (spotsL rw) natT (fun s => decide (s ≤ n)) natT [2] rfl sc_mark_below_losses.nd ((i_tup (y_callT (f := E.f_spots) G1 hr (a1 (yv 0)) ⟨rw, o, rfl, rfl⟩)).c)
      (blkOk_by (N := n_mark_below_losses) (sc := defScope s_mark_below_losses) (by decide +kernel)) (by decide) fun x hx => ⟨_, fun s H C cl fp => ⟨⟨g_name 2 sc_mark_below_losses.nd, ts_one (t_leN (yv 2) (yv 1))⟩, fun _ => yv 2⟩⟩
  · intro z
    have : (0 : Nat) ∈ (spotsL rw).filter fun s => decide (s ≤ n) := List.mem_filter.mpr ⟨by unfold spotsL; simp, by simp⟩
    rw [z] at this; cases this
theorem ok_mark_watch (E : E9 K mg) {k : Nat} (G1 : Ok9 P w base k E.f_spots r_spots) : Ok9 P w base (k + 1) E.f_mark_below_watch r_mark := ok9 sc_mark_below_watch fun cdv A outer s H Ex as r hr hl h => by
  obtain ⟨rw, n, o, rfl, rfl⟩ := h
  refine ru_ret (y_maxN (ns := (spotsL rw).filter fun s => decide (s ≤ n)) rfl (PyN.arg ?q) ?_ E.b_max) rfl
  case q =>
    exact y_lc (own := [("spot", 2)]) (spotsL rw) natT (fun s => decide (s ≤ n)) natT [2] rfl sc_mark_below_watch.nd ((i_tup (y_callT (f := E.f_spots) G1 hr (a1 (yv 0)) ⟨rw, o, rfl, rfl⟩)).c)
      (blkOk_by (N := n_mark_below_watch) (sc := defScope s_mark_below_watch) (by decide +kernel)) (by decide) fun x hx => ⟨_, fun s H C cl fp => ⟨⟨g_name 2 sc_mark_below_watch.nd, ts_one (t_leN (yv 2) (yv 1))⟩, fun _ => yv 2⟩⟩
  · intro z
    have : (0 : Nat) ∈ (spotsL rw).filter fun s => decide (s ≤ n) := List.mem_filter.mpr ⟨by unfold spotsL; simp, by simp⟩
    rw [z] at this; cases this
def r_term (as : List A4) (r : A4) : Prop := ∃ (rw : Rw) (m : Mv) (h : Ct), rw.Ok ∧ m ∈ rw.mv ∧ as = [.t m.t, .d (kvsOf rw.cells h)] ∧ r = .t (termF m h)
theorem ok_term_by_move (E : E9 K mg) {k : Nat} : Ok9 P w base (k + 1) E.f_term_by_move r_term := ok9 sc_term_by_move fun cdv A outer s H Ex as r hr hl h => by
  obtain ⟨rw, m, h, o, hm, rfl, rfl⟩ := h
  have om := o.mv m hm
  refine ru_if (k := decide (m.nm = "copy")) (t_eqS (y_fd 0 (yv 0) E.c_NAME) (y_gs E.c_COPY_terms)) (fun hk => ?_) (fun hk => ru_end ?_)
  · have hc : m.nm = "copy" := of_decide_eq_true hk
    have hlen := om.cp hc
    have h0 : m.rd[0]? = some (m.rd.getD 0 "") := by
      rw [List.getD_eq_getElem?_getD]; simp [show 0 < m.rd.length by omega]
    refine ru_ret (x := .t (termF m h)) ?_ rfl
    refine y_dget (k := m.rd.getD 0 "") (u1 hr) (yd 1) (y_ixM (j := 0) (y_fd 1 (yv 0) E.c_READS) (y_int (i := (0 : Nat))) h0) ?_
    rw [dGet_kvs (om.rd _ (List.mem_of_getElem? h0))]
    unfold termF
    rw [if_pos hc]
  · have hc : ¬ m.nm = "copy" := of_decide_eq_false hk
    refine ru_ret (x := .t (termF m h)) ?_ rfl
    have e : termF m h = T.tup [.str m.nm, .tup (m.rd.map h)] := by unfold termF; rw [if_neg hc]
    rw [e]
    refine y_tup (b_cons (y_fd 0 (yv 0) E.c_NAME) (b_cons (y_tupleL (PyN.arg ?q) E.b_tuple) b_nil))
    exact y_lm (own := [("cell", 2)]) m.rd T.str h [2] rfl sc_term_by_move.nd ((i_tup (y_fd 1 (yv 0) E.c_READS)).c) (blkOk_by (N := n_term_by_move) (sc := defScope s_term_by_move) (by decide +kernel)) (by decide)
      fun c hc => ⟨_, fun s H C cl fp => ⟨g_name 2 sc_term_by_move.nd, y_dget (u1 hr) (yd 1) (yv 2) (dGet_kvs (om.rd c hc))⟩⟩
def r_old (as : List A4) (r : A4) : Prop := ∃ rw : Rw, rw.Ok ∧ as = [.t rw.t] ∧ r = .d (kvsOf rw.cells oldT)
theorem ok_old_contents (E : E9 K mg) {k : Nat} : Ok9 P w base (k + 1) E.f_old_contents r_old := ok9 sc_old_contents fun cdv A outer s H Ex as r hr hl h => by
  obtain ⟨rw, o, rfl, rfl⟩ := h
  refine ru_ret ?_ rfl
  rw [← put_all o.nd]
  exact y_dc (own := [("cell", 1)]) rw.cells T.str (fun c => c) oldT [1] rfl sc_old_contents.nd ((i_tup (y_fd 0 (yv 0) E.c_CELLS)).c) (blkOk_by (N := n_old_contents) (sc := defScope s_old_contents) (by decide +kernel)) (by decide)
    fun c hc => ⟨_, fun s H C cl fp => ⟨g_name 1 sc_old_contents.nd, yv 1, y_tup (b_cons (y_gs E.c_OLD_terms) (b_cons (yv 1) b_nil))⟩⟩
def r_held (as : List A4) (r : A4) : Prop := ∃ (rw : Rw) (ms : List Mv) (h : Ct), rw.Ok ∧ (∀ m ∈ ms, m ∈ rw.mv) ∧ as = [.d (kvsOf rw.cells h), .t (.tup (ms.map Mv.t))] ∧ r = .d (kvsOf rw.cells (ms.foldl (fun h m => stepF m h) h))
theorem ok_held_terms (E : E9 K mg) {k : Nat} (G1 : Ok9 P w base k E.f_term_by_move r_term) : Ok9 P w base (k + 1) E.f_held_behind_terms r_held := ok9 sc_held_behind_terms fun cdv A outer s H Ex as r hr hl h => by
  obtain ⟨rw, ms, h, o, hms, rfl, rfl⟩ := h
  refine ru_set 2 sc_held_behind_terms.nd (y_dictD (yd 0) E.b_dict) ?_
  refine ru_fold ms Mv.t (fun h m => stepF m h) h (fun h' => [.sd (kvsOf rw.cells h), .val (.tup (ms.map Mv.t)), .dic (kvsOf rw.cells h'), .no]) rfl rfl (i_tup (yv 1)) (fun i m b hm hb => ⟨_, _, g_name 3 sc_held_behind_terms.nd, ?_⟩) (fun _ => rfl) (ru_retDic 2 rfl rfl)
  have hmem := hms m (List.mem_of_getElem? hm)
  have lc := o.lc
  refine ru_dput 2 (t := termF m b) (u1 hr) rfl (y_callT (f := E.f_term_by_move) G1 hr (a_cons (yv 3) (a1 (yd 2))) ⟨rw, m, b, o, hmem, rfl, rfl⟩) (y_fd 2 (yv 3) E.c_CELL) (ru_forget 3 (ru_end ?_)) ?_
  · rw [dPut_kvs (o.mv m hmem).gl]
    rfl
  · unfold kvsOf; rw [List.length_map]; omega
def r_by_spot (as : List A4) (r : A4) : Prop := ∃ (rw : Rw) (n : Nat), rw.Ok ∧ as = [.t rw.t, .t (natT n)] ∧ r = .d (kvsOf rw.cells (runR rw 0 n oldT))
theorem cut_take {ts : List T} {n : Nat} : cutT ts none (some (n : Int)) = ts.take n := by
  unfold cutT
  rw [HT.sIx_nat, HT.sIx_none, List.drop_zero, Nat.sub_zero]
  by_cases h : n ≤ ts.length
  · rw [Nat.min_eq_left h]
  · rw [Nat.min_eq_right (by omega), List.take_length, List.take_of_length_le (by omega)]
theorem cut_drop {ts : List T} {n : Nat} : cutT ts (some (n : Int)) none = ts.drop n := by
  unfold cutT
  rw [HT.sIx_nat, HT.sIx_none]
  by_cases h : n ≤ ts.length
  · rw [Nat.min_eq_left h, List.take_of_length_le (by rw [List.length_drop]; omega)]
  · rw [Nat.min_eq_right (by omega), List.drop_length, List.drop_of_length_le (by omega), List.take_nil]
theorem ok_held_by_spot (E : E9 K mg) {k : Nat} (G1 : Ok9 P w base k E.f_held_behind_terms r_held) (G2 : Ok9 P w base k E.f_old_contents r_old) : Ok9 P w base (k + 1) E.f_held_by_spot r_by_spot := ok9 sc_held_by_spot fun cdv A outer s H Ex as r hr hl h => by
  obtain ⟨rw, n, o, rfl, rfl⟩ := h
  refine ru_ret (y_call (f := E.f_held_behind_terms) G1 hr (a_cons (PyN.arg (y_call (f := E.f_old_contents) G2 hr (a1 (yv 0)) ⟨rw, o, rfl, rfl⟩)) (a1 (x := .t (.tup ((rw.mv.take n).map Mv.t))) ?_)) ⟨rw, rw.mv.take n, oldT, o, fun m hm => List.mem_of_mem_take hm, rfl, rfl⟩) rfl
  refine Py.eq (y_slT (i := none) (j := some (n : Int)) (y_fd 2 (yv 0) E.c_MOVES) ?_ ?_) ?_
  · exact .no
  · exact .at (yv 1)
  · rw [cut_take, List.map_take]
def r_contents (as : List A4) (r : A4) : Prop := ∃ (rw : Rw) (n : Nat), rw.Ok ∧ n ≤ rw.mv.length ∧ as = [.t rw.t, .t (natT n)] ∧ r = .t (.tup (rw.cells.map (runR rw 0 n oldT)))
theorem ok_contents_at (E : E9 K mg) {k : Nat} (G1 : Ok9 P w base k E.f_check_spot r_check_spot) (G2 : Ok9 P w base k E.f_held_by_spot r_by_spot) : Ok9 P w base (k + 1) E.f_contents_at r_contents := ok9 sc_contents_at fun cdv A outer s H Ex as r hr hl h => by
  obtain ⟨rw, n, o, hn, rfl, rfl⟩ := h
  refine ru_call (y_call (f := E.f_check_spot) G1 hr (a_cons (yv 0) (a1 (yv 1))) ⟨rw, n, hn, rfl, rfl⟩) ?_
  refine ru_set 2 sc_contents_at.nd (y_call (f := E.f_held_by_spot) G2 hr (a_cons (yv 0) (a1 (yv 1))) ⟨rw, n, o, rfl, rfl⟩) ?_
  refine ru_ret (y_tupleL (PyN.arg ?q) E.b_tuple) rfl
  exact y_lm (own := [("cell", 3)]) rw.cells T.str (runR rw 0 n oldT) [3] rfl sc_contents_at.nd ((i_tup (y_fd 0 (yv 0) E.c_CELLS)).c) (blkOk_by (N := n_contents_at) (sc := defScope s_contents_at) (by decide +kernel)) (by decide)
    fun c hc => ⟨_, fun s H C cl fp => ⟨g_name 3 sc_contents_at.nd, y_dget (u1 hr) (yd 2) (yv 3) (dGet_kvs hc)⟩⟩
theorem want_sub {r : Rw} (o : r.Ok) {c : Str} (h : c ∈ r.want) : c ∈ r.cells := by
  rw [o.wc] at h
  exact (List.mem_filter.mp h).1
def r_end (as : List A4) (r : A4) : Prop := ∃ rw : Rw, rw.Ok ∧ as = [.t rw.t] ∧ r = .t (.tup (endL rw none))
theorem ok_end_terms (E : E9 K mg) {k : Nat} (G2 : Ok9 P w base k E.f_held_by_spot r_by_spot) : Ok9 P w base (k + 1) E.f_end_terms r_end := ok9 sc_end_terms fun cdv A outer s H Ex as r hr hl h => by
  obtain ⟨rw, o, rfl, rfl⟩ := h
  have hs : ∀ {X : Cx} {ρ : List Sl} {p pos p2 p3 : Pos}, Py X (.Subscript (.Name "row" p) (.Name "MOVES" p2) p3) ρ (.tup (rw.mv.map Mv.t)) → True := fun _ => trivial
  refine ru_set 1 sc_end_terms.nd (y_call (f := E.f_held_by_spot) G2 hr (a_cons (yv 0) (a1 (x := .t (natT rw.mv.length)) (Py.eq (y_len (y_fd 2 (yv 0) E.c_MOVES) E.b_len) (by rw [List.length_map]; rfl)))) ⟨rw, rw.mv.length, o, rfl, rfl⟩) ?_
  refine ru_ret (y_tupleL (PyN.arg ?q) E.b_tuple) rfl
  exact y_lm (own := [("cell", 2)]) rw.want T.str (endC rw none) [2] rfl sc_end_terms.nd ((i_tup (y_fd 1 (yv 0) E.c_WANTED)).c) (blkOk_by (N := n_end_terms) (sc := defScope s_end_terms) (by decide +kernel)) (by decide)
    fun c hc => ⟨_, fun s H C cl fp => ⟨g_name 2 sc_end_terms.nd, y_dget (u1 hr) (yd 1) (yv 2) (dGet_kvs (want_sub o hc))⟩⟩
end
end Nine
set_option maxHeartbeats 4000000
/-! K9R3: what counts, what is hazardous, walked. -/
namespace Nine
open PySem PySem.Spec PyProof.Rows L2
theorem mv_at {r : Rw} {n : Nat} (h : n < r.mv.length) : r.mv[n]? = some (mvAt r n) := by
  unfold mvAt; rw [List.getD_eq_getElem?_getD]; simp [h]
theorem mv_mem {r : Rw} {n : Nat} (h : n < r.mv.length) : mvAt r n ∈ r.mv := List.mem_of_getElem? (mv_at h)
theorem mvt_at {r : Rw} {n : Nat} (h : n < r.mv.length) : (r.mv.map Mv.t).getD n .non = (mvAt r n).t := by
  rw [List.getD_eq_getElem?_getD, List.getElem?_map, mv_at h]; rfl
theorem writes_len {r : Rw} {c : Str} : (writesL r c).length ≤ r.mv.length := by
  unfold writesL
  exact Nat.le_trans (List.length_filter_le _ _) (by rw [List.length_range]; exact Nat.le_refl _)
theorem inV_opt (x : Nat) (l : List (Option Nat)) : inV (natT x).v ((l.map optT).map T.v) = decide (some x ∈ l) := by
  unfold inV
  rw [List.any_map, List.any_map, Bool.eq_iff_iff, List.any_eq_true]
  simp only [decide_eq_true_eq]
  constructor
  · rintro ⟨y, hy, e⟩
    cases y with
    | none => exact absurd (show false = true from e) Bool.false_ne_true
    | some y =>
      have e' : ((y : Int) == (x : Int)) = true := e
      have : y = x := by have := beq_iff_eq.mp e'; omega
      rw [← this]
      exact hy
  · intro h
    exact ⟨some x, h, (show ((x : Int) == (x : Int)) = true by simp)⟩
theorem flat_opts (l : List (Option Nat)) : (l.map optT).all T.flat = true := by
  rw [List.all_map, List.all_eq_true]
  intro o _
  cases o <;> rfl
section
variable {P : Program} {w : World} {K : PySem.W.Frag} {mg : Str → Option Value} {base : Heap}
def r_writes (as : List A4) (r : A4) : Prop := ∃ (rw : Rw) (c : Str), rw.Ok ∧ as = [.t rw.t, .t (.str c)] ∧ r = .s ((writesL rw c).map natT)
theorem ok_writes (E : E9 K mg) {k : Nat} : Ok9 P w base (k + 1) E.f_writes r_writes := ok9 sc_writes fun cdv A outer s H Ex as r hr hl h => by
  obtain ⟨rw, c, o, rfl, rfl⟩ := h
  refine ru_ret (y_lc (own := [("number", 2), ("move", 3)]) (List.range rw.mv.length) (fun i => T.tup [natT i, (rw.mv.map Mv.t).getD i .non]) (fun n => decide (glAt rw n = c)) natT [2, 3] rfl sc_writes.nd ?q (blkOk_by (N := n_writes) (sc := defScope s_writes) (by decide +kernel)) (by decide) ?t) rfl
  case q =>
    refine (PiI.eq (i_enumT (y_fd 2 (yv 0) E.c_MOVES) E.b_enumerate) ?_).c
    rw [List.length_map]
  case t =>
    intro n hn
    have hn' := List.mem_range.mp hn
    rw [mvt_at hn']
    exact ⟨_, fun s H C cl fp => ⟨⟨g_tup rfl (gs_cons (g_name 2 sc_writes.nd) (gs_cons (g_name 3 sc_writes.nd) gs_nil)), ts_one (t_eqS (y_fd 2 (yv 3) E.c_CELL) (yv 1))⟩, fun _ => yv 2⟩⟩
def r_writer (as : List A4) (r : A4) : Prop := ∃ (rw : Rw) (c : Str) (n : Nat), rw.Ok ∧ as = [.t rw.t, .t (.str c), .t (natT n)] ∧ r = .t (optT (writerL rw c n))
theorem last_at {l : List Nat} {ts : List T} (h : l ≠ []) (e : ts = l.map natT) : atI ts (-1) = some (optT l.getLast?) := by
  subst e
  have hl : 0 < l.length := List.length_pos_iff.mpr h
  have e1 : l.getLast? = some (l[l.length - 1]'(by omega)) := by rw [List.getLast?_eq_getElem?]; simp [show l.length - 1 < l.length by omega]
  have e2 : ixN l.length (-1) = some (l.length - 1) := by
    unfold ixN
    split <;> first | omega | skip
    all_goals first
      | (simp; omega)
      | (split <;> first | omega | (simp; omega) | rfl)
  unfold atI
  rw [List.length_map, e2, e1]
  simp [show l.length - 1 < l.length by omega]
  rfl
theorem ok_writer (E : E9 K mg) {k : Nat} (G1 : Ok9 P w base k E.f_writes r_writes) : Ok9 P w base (k + 1) E.f_writer r_writer := ok9 sc_writer fun cdv A outer s H Ex as r hr hl h => by
  obtain ⟨rw, c, n, o, rfl, rfl⟩ := h
  refine ru_setLc 3 (own := [("number", 4)]) (writesL rw c) natT (fun m => decide (m < n)) natT [4] rfl sc_writer.nd ((i_new (y_call (f := E.f_writes) G1 hr (a_cons (yv 0) (a1 (yv 1))) ⟨rw, c, o, rfl, rfl⟩)).c) (blkOk_by (N := n_writer) (sc := defScope s_writer) (by decide +kernel)) (by decide)
    (fun m hm => ⟨_, fun s H C cl fp => ⟨⟨g_name 4 sc_writer.nd, ts_one (t_ltN (yv 4) (yv 2))⟩, fun _ => yv 4⟩⟩) ?_
  refine ru_ret (y_if (k := decide (0 < ((writesL rw c).filter fun m => decide (m < n)).length)) ?_ (fun hk => ?_) fun hk => ?_) rfl
  · refine Pt.eq (t_gt (y_lenL (yl 3) E.b_len) y_int) ?_
    rw [List.length_map, Bool.eq_iff_iff]
    simp
  · have h0 := of_decide_eq_true hk
    exact y_ixL (yl 3) (y_neg y_int) (last_at (List.length_pos_iff.mp h0) rfl)
  · have h0 := of_decide_eq_false hk
    have e : (writesL rw c).filter (fun m => decide (m < n)) = [] := List.length_eq_zero_iff.mp (by omega)
    have e2 : writerL rw c n = none := by unfold writerL; rw [e]; rfl
    rw [e2]
    exact y_non
def r_sources (as : List A4) (r : A4) : Prop := ∃ (rw : Rw) (n : Nat), rw.Ok ∧ n < rw.mv.length ∧ as = [.t rw.t, .t (natT n)] ∧ r = .t (.tup ((sourcesL rw n).map optT))
theorem ok_sources (E : E9 K mg) {k : Nat} (G1 : Ok9 P w base k E.f_check_move r_check_move) (G2 : Ok9 P w base k E.f_writer r_writer) : Ok9 P w base (k + 1) E.f_sources r_sources := ok9 sc_sources fun cdv A outer s H Ex as r hr hl h => by
  obtain ⟨rw, n, o, hn, rfl, rfl⟩ := h
  refine ru_call (y_call (f := E.f_check_move) G1 hr (a_cons (yv 0) (a1 (yv 1))) ⟨rw, n, hn, rfl, rfl⟩) ?_
  refine ru_ret (y_tupleL (PyN.arg ?q) E.b_tuple) rfl
  refine PyL.eq (y_lm (own := [("cell", 2)]) (rdAt rw n) T.str (fun c => optT (writerL rw c n)) [2] rfl sc_sources.nd ((i_tup (y_fd 1 (y_ixM (f := Mv.t) (y_fd 2 (yv 0) E.c_MOVES) (yv 1) (mv_at hn)) E.c_READS)).c) (blkOk_by (N := n_sources) (sc := defScope s_sources) (by decide +kernel)) (by decide)
    fun c hc => ⟨_, fun s H C cl fp => ⟨g_name 2 sc_sources.nd, y_callT (f := E.f_writer) G2 hr (a_cons (yv 0) (a_cons (yv 2) (a1 (yv 1)))) ⟨rw, c, n, o, rfl, rfl⟩⟩⟩) ?_
  unfold sourcesL
  rw [List.map_map]
  rfl
def r_users (as : List A4) (r : A4) : Prop := ∃ (rw : Rw) (n : Nat), rw.Ok ∧ as = [.t rw.t, .t (natT n)] ∧ n < rw.mv.length ∧ r = .s ((usersL rw n).map natT)
theorem ok_users (E : E9 K mg) {k : Nat} (G1 : Ok9 P w base k E.f_sources r_sources) : Ok9 P w base (k + 1) E.f_users r_users := ok9 sc_users fun cdv A outer s H Ex as r hr hl h => by
  obtain ⟨rw, n, o, rfl, hn, rfl⟩ := h
  have hlm := o.lm
  refine ru_ret (y_lc (own := [("other", 2)]) (List.range' (n + 1) (rw.mv.length - (n + 1))) natT (fun o => decide (some n ∈ sourcesL rw o)) natT [2] rfl sc_users.nd ?q (blkOk_by (N := n_users) (sc := defScope s_users) (by decide +kernel)) (by decide) ?t) rfl
  case q =>
    refine (i_rngN (x := n + 1) (y := rw.mv.length) (y_addN (yv 1) (y_int (i := (1 : Nat)))) ?_ (by omega) (by omega) E.b_range).c
    exact Py.eq (y_len (y_fd 2 (yv 0) E.c_MOVES) E.b_len) (by rw [List.length_map]; rfl)
  case t =>
    intro m hm
    have hm' := List.mem_range'_1.mp hm
    exact ⟨_, fun s H C cl fp => ⟨⟨g_name 2 sc_users.nd, ts_one (Pt.eq (t_in (t := natT n) (yv 1) (y_callT (f := E.f_sources) G1 hr (a_cons (yv 0) (a1 (yv 2))) ⟨rw, m, o, by omega, rfl, rfl⟩) rfl (flat_opts _)) (inV_opt _ _))⟩, fun _ => yv 2⟩⟩
def r_is_kept (as : List A4) (r : A4) : Prop := ∃ (rw : Rw) (n : Nat), rw.Ok ∧ as = [.t rw.t, .t (natT n)] ∧ n < rw.mv.length ∧ r = .t (.bl (keptB rw n))
theorem ok_is_kept (E : E9 K mg) {k : Nat} (G1 : Ok9 P w base k E.f_writer r_writer) : Ok9 P w base (k + 1) E.f_is_kept r_is_kept := ok9 sc_is_kept fun cdv A outer s H Ex as r hr hl h => by
  obtain ⟨rw, n, o, rfl, hn, rfl⟩ := h
  refine ru_set 2 (y := .t (.str (glAt rw n))) sc_is_kept.nd (y_fd 2 (y_ixM (f := Mv.t) (y_fd 2 (yv 0) E.c_MOVES) (yv 1) (mv_at hn)) E.c_CELL) ?_
  refine ru_ret (x := .t (.bl (keptB rw n))) (y_and (k := decide (glAt rw n ∈ rw.want)) (y_inS (yv 2) (y_fd 1 (yv 0) E.c_WANTED)) (fun hk => ?_) fun hk => ?_) rfl
  · refine Py.eq (y_eq (t := optT (writerL rw (glAt rw n) rw.mv.length)) (u := natT n) (y_callT (f := E.f_writer) G1 hr (a_cons (yv 0) (a_cons (yv 2) (a1 (x := .t (natT rw.mv.length)) ?_))) ⟨rw, glAt rw n, rw.mv.length, o, rfl, rfl⟩) (yv 1) ?_ rfl ?_) ?_
    · exact Py.eq (y_len (y_fd 2 (yv 0) E.c_MOVES) E.b_len) (by rw [List.length_map]; rfl)
    · cases writerL rw (glAt rw n) rw.mv.length <;> rfl
    · cases writerL rw (glAt rw n) rw.mv.length <;> rfl
    · unfold keptB
      rw [hk, Bool.true_and]
      cases writerL rw (glAt rw n) rw.mv.length with
      | none => simp [optT, natT, T.v]
      | some m => rw [show optT (some m) = natT m from rfl, v_nat]; simp
  · unfold keptB
    rw [hk, Bool.false_and]
end
end Nine
set_option maxHeartbeats 4000000
/-! K9R4: counting, reads_first, hazards, keeps, walked. -/
namespace Nine
open PySem PySem.Spec PyProof.Rows L2
theorem cnt_len {r : Rw} : ∀ (l : List Nat) (f : List Nat), (l.foldl (cntStep r) f).length ≤ f.length + l.length
  | [], f => by simp
  | n :: l, f => by
    rw [List.foldl_cons]
    have := cnt_len (r := r) l (cntStep r f n)
    have h2 : (cntStep r f n).length ≤ f.length + 1 := by
      unfold cntStep
      split
      · simp
      · omega
    rw [List.length_cons]
    omega
section
variable {P : Program} {w : World} {K : PySem.W.Frag} {mg : Str → Option Value} {base : Heap}
def r_counting (as : List A4) (r : A4) : Prop := ∃ rw : Rw, rw.Ok ∧ as = [.t rw.t] ∧ r = .t (.tup ((cntL rw).map natT))
theorem ok_counting (E : E9 K mg) {k : Nat} (G0 : Ok9 P w base k E.f_set_of r_set_n) (G1 : Ok9 P w base k E.f_is_kept r_is_kept) (G2 : Ok9 P w base k E.f_users r_users) : Ok9 P w base (k + 1) E.f_counting r_counting := ok9 sc_counting fun cdv A outer s H Ex as r hr hl h => by
  obtain ⟨rw, o, rfl, rfl⟩ := h
  have hlm := o.lm
  refine ru_set 1 (y := .s []) sc_counting.nd (y_lst b_nil) ?_
  refine ru_fold ((List.range rw.mv.length).reverse) natT (cntStep rw) [] (fun f => [.val rw.t, .own (f.map natT), .no, .no]) rfl rfl ?q (fun i n b hn hb => ⟨_, _, g_name 2 sc_counting.nd, ?_⟩) (fun _ => rfl) ?_
  case q =>
    refine i_rngR (n := rw.mv.length) ?_ (y_neg y_int) (y_neg y_int) (by omega) E.b_range
    exact Py.eq (y_sub (y_len (y_fd 2 (yv 0) E.c_MOVES) E.b_len) y_int) (by rw [List.length_map])
  · have hn' : n < rw.mv.length := by
      have := List.mem_of_getElem? hn
      rw [List.mem_reverse] at this
      exact List.mem_range.mp this
    have hbl : b.length ≤ 10 := by
      have := cnt_len (r := rw) (((List.range rw.mv.length).reverse).take i) []
      rw [← hb] at this
      have h2 := List.length_take_le i ((List.range rw.mv.length).reverse)
      simp at this
      omega
    refine ru_if (k := keptB rw n || (usersL rw n).any (fun o => decide (o ∈ b))) (t_or (t_val (y_callT (f := E.f_is_kept) G1 hr (a_cons (yv 0) (a1 (yv 2))) ⟨rw, n, o, rfl, hn', rfl⟩)) fun hk => t_val ?_) (fun hk => ?_) fun hk => ?_
    · refine Py.eq (y_any (bs := (usersL rw n).map fun o => decide (o ∈ b)) rfl (PyN.arg ?_) E.b_any) (by rw [List.any_map]; rfl)
      refine PyL.eq (y_lm (own := [("other", 3)]) (usersL rw n) natT (fun o => .bl (decide (o ∈ b))) [3] rfl sc_counting.nd ((i_new (y_call (f := E.f_users) G2 hr (a_cons (yv 0) (a1 (yv 2))) ⟨rw, n, o, rfl, hn', rfl⟩)).c) (blkOk_by (N := n_counting) (sc := defScope s_counting) (by decide +kernel)) (by decide)
        fun m hm => ⟨_, fun s H C cl fp => ⟨g_name 3 sc_counting.nd, y_inNL (yv 3) (yl 1)⟩⟩) ?_
      rw [List.map_map]
      rfl
    · refine ru_append 1 rfl (yv 2) (ru_end (ru_forget 2 (ru_end ?_))) (by rw [List.length_map]; omega)
      unfold cntStep
      rw [if_pos hk, List.map_append]
      rfl
    · refine ru_end (ru_forget 2 (ru_end ?_))
      unfold cntStep
      rw [if_neg (by rw [hk]; exact Bool.false_ne_true)]
      rfl
  · have hcl := cnt_len (r := rw) ((List.range rw.mv.length).reverse) []
    rw [List.length_reverse, List.length_range, List.length_nil] at hcl
    exact ru_ret (y_call (f := E.f_set_of) G0 hr (a1 (yl 1)) ⟨_, by omega, rfl, rfl⟩) rfl
def pS (p : Nat × Str) : T := .tup [natT p.1, .str p.2]
def r_reads (as : List A4) (r : A4) : Prop := ∃ (rw : Rw) (lo hi : Nat), rw.Ok ∧ lo ≤ hi ∧ hi ≤ rw.mv.length ∧ as = [.t rw.t, .t (.tup [natT lo, natT hi])] ∧ r = .s ((readsFirstL rw lo hi).map pS)
abbrev rfStep (r : Rw) (lo : Nat) (found : List (Nat × Str)) (n : Nat) : List (Nat × Str) := if n ∈ cntL r then found ++ ((rdAt r n).filter fun c => !decide (c ∈ (List.range' lo (n - lo)).map (glAt r))).map fun c => (n, c) else found
theorem rf_len {r : Rw} (o : r.Ok) {lo : Nat} : ∀ (l : List Nat) (f : List (Nat × Str)), (∀ n ∈ l, n < r.mv.length) → (l.foldl (rfStep r lo) f).length ≤ f.length + 3 * l.length
  | [], f, _ => by simp
  | n :: l, f, h => by
    rw [List.foldl_cons]
    have := rf_len o (lo := lo) l (rfStep r lo f n) fun m hm => h m (List.mem_cons_of_mem _ hm)
    have h3 := (o.mv _ (mv_mem (h n List.mem_cons_self))).lo
    have h2 : (rfStep r lo f n).length ≤ f.length + 3 := by
      unfold rfStep
      split
      · rw [List.length_append, List.length_map]
        have := List.length_filter_le (fun c => !decide (c ∈ (List.range' lo (n - lo)).map (glAt r))) (rdAt r n)
        unfold rdAt at this ⊢
        omega
      · omega
    rw [List.length_cons]
    omega
theorem ok_reads_first (E : E9 K mg) {k : Nat} (G1 : Ok9 P w base k E.f_counting r_counting) : Ok9 P w base (k + 1) E.f_reads_first r_reads := ok9 sc_reads_first fun cdv A outer s H Ex as r hr hl h => by
  obtain ⟨rw, lo, hi, o, hlo, hhi, rfl, rfl⟩ := h
  have hlm := o.lm
  refine ru_unt rfl (yv 1) (gs_cons (g_name 3 sc_reads_first.nd) (gs_cons (g_name 4 sc_reads_first.nd) gs_nil)) ?_
  refine ru_par3 5 6 7 (u := .t (.tup (rw.mv.map Mv.t))) (w := .s []) (y3 := .t (.tup ((cntL rw).map natT))) rfl sc_reads_first.nd (y_fd 2 (yv 0) E.c_GOAL) (y_lst b_nil) (y_call (f := E.f_counting) G1 hr (a1 (yv 0)) ⟨rw, o, rfl, rfl⟩) ?_ ⟨rfl, rfl⟩
  refine ru_fold (List.range' lo (hi - lo)) natT (rfStep rw lo) [] (fun f => [.val rw.t, .val (.tup [natT lo, natT hi]), .no, .val (natT lo), .val (natT hi), .val (.tup (rw.mv.map Mv.t)), .own (f.map pS), .val (.tup ((cntL rw).map natT)), .no, .no, .no]) rfl rfl ?q (fun i n b hn hb => ⟨_, _, g_name 2 sc_reads_first.nd, ?_⟩) (fun _ => rfl) (ru_retOwn 6 rfl rfl)
  case q => exact i_rngN (x := lo) (y := hi) (yv 3) (yv 4) (by omega) (by omega) E.b_range
  have hn' := List.mem_range'_1.mp (List.mem_of_getElem? hn)
  have hnl : n < rw.mv.length := by omega
  refine ru_if (k := decide (n ∈ cntL rw)) (t_inN (yv 2) (yv 7)) (fun hk => ?_) fun hk => ?_
  · refine ru_set 8 (y := .s (((List.range' lo (n - lo)).map (glAt rw)).map T.str)) sc_reads_first.nd ?q ?_
    case q =>
      refine PyL.eq (y_lm (own := [("other", 9)]) (List.range' lo (n - lo)) natT (fun m => .str (glAt rw m)) [9] rfl sc_reads_first.nd ((i_rngN (x := lo) (y := n) (yv 3) (yv 2) (by omega) (by omega) E.b_range).c) (blkOk_by (N := n_reads_first) (sc := defScope s_reads_first) (by decide +kernel)) (by decide)
        fun m hm => ⟨_, fun s H C cl fp => ⟨g_name 9 sc_reads_first.nd, y_fd 2 (y_ixM (f := Mv.t) (yv 5) (yv 9) (mv_at (by have := List.mem_range'_1.mp hm; omega))) E.c_GOAL⟩⟩) ?_
      rw [List.map_map]
      rfl
    refine ru_extend 6 (us := (((rdAt rw n).filter fun c => !decide (c ∈ (List.range' lo (n - lo)).map (glAt rw))).map fun c => (n, c)).map pS) rfl ?q (ru_end (ru_forget 2 (ru_forget 8 (ru_end ?_)))) ?_
    case q =>
      refine PyL.eq (y_lc (own := [("cell", 10)]) (rdAt rw n) T.str (fun c => !decide (c ∈ (List.range' lo (n - lo)).map (glAt rw))) (fun c => pS (n, c)) [10] rfl sc_reads_first.nd ((i_tup (y_fc 1 (y_ixM (f := Mv.t) (yv 5) (yv 2) (mv_at hnl)))).c) (blkOk_by (N := n_reads_first) (sc := defScope s_reads_first) (by decide +kernel)) (by decide)
        fun c hc => ⟨_, fun s H C cl fp => ⟨⟨g_name 10 sc_reads_first.nd, ts_one (t_niSL (yv 10) (yl 8))⟩, fun _ => y_tup (b_cons (yv 2) (b_cons (yv 10) b_nil))⟩⟩) ?_
      rw [List.map_map]
      rfl
    · show _ = [_, _, _, _, _, _, Sl.own ((rfStep rw lo b n).map pS), _, _, _, _]
      unfold rfStep
      rw [if_pos (of_decide_eq_true hk), List.map_append]
      rfl
    · have h3 := (o.mv _ (mv_mem hnl)).lo
      have hb2 : b.length ≤ 100 := by
        have := rf_len o (lo := lo) ((List.range' lo (hi - lo)).take i) [] fun m hm => by
          have := List.mem_range'_1.mp (List.mem_of_mem_take hm); omega
        rw [← hb] at this
        have h2 := List.length_take_le i (List.range' lo (hi - lo))
        simp at this
        omega
      have h4 := List.length_filter_le (fun c => !decide (c ∈ (List.range' lo (n - lo)).map (glAt rw))) (rdAt rw n)
      simp only [List.length_map]
      unfold rdAt at h4 ⊢
      omega
  · refine ru_end (ru_forget 2 (ru_forget 8 (ru_end ?_)))
    show _ = [_, _, _, _, _, _, Sl.own ((rfStep rw lo b n).map pS), _, _, _, _]
    unfold rfStep
    rw [if_neg (of_decide_eq_false hk)]
    rfl
end
end Nine
set_option maxHeartbeats 4000000
/-! K9R5: hazards, keeps, walked. -/
namespace Nine
open PySem PySem.Spec PyProof.Rows L2
theorem stretch_ok {r : Rw} (o : r.Ok) {s : Nat × Nat} (h : s ∈ stretchesL r) : s.1 ≤ s.2 ∧ s.2 ≤ r.mv.length := by
  unfold stretchesL at h
  obtain ⟨p, hp, rfl⟩ := List.mem_map.mp h
  have hp' := List.mem_range.mp hp
  have h1 : p < (spotsL r).length := by omega
  have h2 : p + 1 < (spotsL r).length := by omega
  have e1 : (spotsL r).getD p 0 = (spotsL r)[p] := by rw [List.getD_eq_getElem?_getD]; simp [h1]
  have e2 : (spotsL r).getD (p + 1) 0 = (spotsL r)[p + 1] := by rw [List.getD_eq_getElem?_getD]; simp [h2]
  rw [e1, e2]
  have := List.pairwise_iff_getElem.mp (spots_asc o) p (p + 1) h1 h2 (by omega)
  exact ⟨Nat.le_of_lt this, spots_le o (List.getElem_mem h2)⟩
theorem rf_mem {r : Rw} {lo : Nat} : ∀ (l : List Nat) (f : List (Nat × Str)) (p : Nat × Str), p ∈ l.foldl (rfStep r lo) f → p ∈ f ∨ p.1 ∈ l
  | [], f, p, h => .inl h
  | n :: l, f, p, h => by
    rw [List.foldl_cons] at h
    rcases rf_mem l _ p h with h2 | h2
    · unfold rfStep at h2
      split at h2
      · rcases List.mem_append.mp h2 with h3 | h3
        · exact .inl h3
        · obtain ⟨c, _, rfl⟩ := List.mem_map.mp h3
          exact .inr List.mem_cons_self
      · exact .inl h2
    · exact .inr (List.mem_cons_of_mem _ h2)
theorem hz_len {r : Rw} {hi : Nat} (hh : hi ≤ 10) : ∀ (l : List (Nat × Str)) (f : List Hz), (l.foldl (hazStep r hi) f).length ≤ f.length + 10 * l.length
  | [], f => by simp
  | p :: l, f => by
    rw [List.foldl_cons]
    have := hz_len hh l (hazStep r hi f p) (r := r)
    have h2 : (hazStep r hi f p).length ≤ f.length + 10 := by
      unfold hazStep
      rw [List.length_append, List.length_map]
      have := List.length_filter_le (fun l => decide (glAt r l = p.2)) (List.range' p.1 (hi - p.1))
      rw [List.length_range'] at this
      omega
    rw [List.length_cons]
    omega
abbrev hzSt (r : Rw) (found : List Hz) (s : Nat × Nat) : List Hz := (readsFirstL r s.1 s.2).foldl (hazStep r s.2) found
theorem rfl_len {r : Rw} (o : r.Ok) {lo hi : Nat} (h : hi ≤ r.mv.length) : (readsFirstL r lo hi).length ≤ 30 := by
  have := rf_len o (lo := lo) (List.range' lo (hi - lo)) [] fun m hm => by have := List.mem_range'_1.mp hm; omega
  have hlm := o.lm
  rw [List.length_range', List.length_nil] at this
  show (List.foldl (rfStep r lo) [] (List.range' lo (hi - lo))).length ≤ 30
  omega
theorem hzs_len {r : Rw} (o : r.Ok) : ∀ (l : List (Nat × Nat)) (f : List Hz), (∀ s ∈ l, s.2 ≤ r.mv.length) → (l.foldl (hzSt r) f).length ≤ f.length + 300 * l.length
  | [], f, _ => by simp
  | s :: l, f, h => by
    rw [List.foldl_cons]
    have h0 := h s List.mem_cons_self
    have hlm := o.lm
    have h1 := hzs_len o l (hzSt r f s) fun t ht => h t (List.mem_cons_of_mem _ ht)
    have h2 := hz_len (r := r) (hi := s.2) (by omega) (readsFirstL r s.1 s.2) f
    have h3 := rfl_len o (lo := s.1) h0
    rw [List.length_cons]
    show _ ≤ _
    unfold hzSt at h1 ⊢
    omega
section
variable {P : Program} {w : World} {K : PySem.W.Frag} {mg : Str → Option Value} {base : Heap}
/-- set_of of hazards: fewer than 64 -/
def r_set_h (as : List A4) (r : A4) : Prop := ∃ hs : List Hz, hs.length < 64 ∧ as = [.s (hs.map hzT)] ∧ r = .t (.tup ((ordU ltH hs).map hzT))
def r_hazards (as : List A4) (r : A4) : Prop := ∃ rw : Rw, rw.Ok ∧ (hazRaw rw).length < 64 ∧ as = [.t rw.t] ∧ r = .t (.tup ((hazL rw).map hzT))
theorem ok_hazards (E : E9 K mg) {k : Nat} (G0 : Ok9 P w base k E.f_set_of r_set_h) (G1 : Ok9 P w base k E.f_stretches r_stretches) (G2 : Ok9 P w base k E.f_reads_first r_reads) : Ok9 P w base (k + 1) E.f_hazards r_hazards := ok9 sc_hazards fun cdv A outer s H Ex as r hr hl h => by
  obtain ⟨rw, o, h64, rfl, rfl⟩ := h
  have hlm := o.lm
  have hsl : (stretchesL rw).length ≤ 11 := by
    unfold stretchesL
    rw [List.length_map, List.length_range]
    have := spots_len o
    omega
  refine ru_par2 2 3 (u := .s []) (w := .t (.tup (rw.mv.map Mv.t))) rfl sc_hazards.nd (by decide) (y_lst b_nil) (y_fd 2 (yv 0) E.c_GOAL) ?_
  refine ru_fold (stretchesL rw) (fun p => T.tup [natT p.1, natT p.2]) (hzSt rw) [] (fun f => [.val rw.t, .no, .own (f.map hzT), .val (.tup (rw.mv.map Mv.t)), .no, .no, .no, .no]) rfl rfl
    (i_tup (y_callT (f := E.f_stretches) G1 hr (a1 (yv 0)) ⟨rw, o, rfl, rfl⟩)) (fun i s b hs hb => ⟨_, _, g_name 1 sc_hazards.nd, ?_⟩) (fun _ => rfl) ?_
  · have hsm := stretch_ok o (List.mem_of_getElem? hs)
    have hb1 : b.length ≤ 3300 := by
      have h1 := hzs_len o ((stretchesL rw).take i) [] fun s hs => (stretch_ok o (List.mem_of_mem_take hs)).2
      have h2 : ((stretchesL rw).take i).length ≤ (stretchesL rw).length := by rw [List.length_take]; omega
      rw [← hb, List.length_nil] at h1
      omega
    refine ru_fold (readsFirstL rw s.1 s.2) pS (hazStep rw s.2) b (fun f => [.val rw.t, .val (.tup [natT s.1, natT s.2]), .own (f.map hzT), .val (.tup (rw.mv.map Mv.t)), .no, .no, .no, .no]) rfl rfl
      (i_new (y_call (f := E.f_reads_first) G2 hr (a_cons (yv 0) (a1 (yv 1))) ⟨rw, s.1, s.2, o, hsm.1, hsm.2, rfl, rfl⟩)) (fun j p f hp hf => ⟨_, _, g_tup rfl (gs_cons (g_name 4 sc_hazards.nd) (gs_cons (g_name 5 sc_hazards.nd) gs_nil)), ?_⟩) (fun _ => rfl) (ru_forget 1 (ru_end rfl))
    have hp1 : p.1 ∈ List.range' s.1 (s.2 - s.1) := by
      rcases rf_mem (r := rw) (lo := s.1) (List.range' s.1 (s.2 - s.1)) [] p (List.mem_of_getElem? hp) with z | z
      · cases z
      · exact z
    have hp2 := List.mem_range'_1.mp hp1
    have hf1 : f.length ≤ 4000 := by
      have h1 := hz_len (r := rw) (hi := s.2) (by omega) ((readsFirstL rw s.1 s.2).take j) b
      have h2 : ((readsFirstL rw s.1 s.2).take j).length ≤ (readsFirstL rw s.1 s.2).length := by rw [List.length_take]; omega
      have h3 := rfl_len o (lo := s.1) hsm.2
      rw [← hf] at h1
      omega
    refine ru_setLc 6 (own := [("later", 7)]) (List.range' p.1 (s.2 - p.1)) natT (fun l => decide (glAt rw l = p.2)) natT [7] rfl sc_hazards.nd
      ((i_rngN (x := p.1) (y := s.2) (yv 4) (y_fc 1 (yv 1)) (by omega) (by omega) E.b_range).c) (blkOk_by (N := n_hazards) (sc := defScope s_hazards) (by decide +kernel)) (by decide)
      (fun l hl' => ⟨_, fun s' H C cl fp => ⟨⟨g_name 7 sc_hazards.nd, ts_one (t_eqS (y_fd 2 (y_ixM (f := Mv.t) (yv 3) (yv 7) (mv_at (by have := List.mem_range'_1.mp hl'; omega))) E.c_GOAL) (yv 5))⟩, fun _ => yv 7⟩⟩) ?_
    refine ru_extend 2 (us := (((List.range' p.1 (s.2 - p.1)).filter fun l => decide (glAt rw l = p.2)).map fun l => (p.1, p.2, l)).map hzT) rfl ?q (ru_forget 4 (ru_forget 5 (ru_forget 6 (ru_end ?_)))) ?_
    case q =>
      refine PyL.eq (y_lm (own := [("later", 7)]) ((List.range' p.1 (s.2 - p.1)).filter fun l => decide (glAt rw l = p.2)) natT (fun l => hzT (p.1, p.2, l)) [7] rfl sc_hazards.nd ((i_lst (yl 6))) (blkOk_by (N := n_hazards) (sc := defScope s_hazards) (by decide +kernel)) (by decide)
        fun l hl' => ⟨_, fun s' H C cl fp => ⟨g_name 7 sc_hazards.nd, y_tup (b_cons (yv 4) (b_cons (yv 5) (b_cons (yv 7) b_nil)))⟩⟩) ?_
      rw [List.map_map]
      rfl
    · show _ = [_, _, Sl.own ((hazStep rw s.2 f p).map hzT), _, _, _, _, _]
      unfold hazStep
      rw [List.map_append]
      rfl
    · have h4 := List.length_filter_le (fun l => decide (glAt rw l = p.2)) (List.range' p.1 (s.2 - p.1))
      rw [List.length_range'] at h4
      simp only [List.length_map]
      omega
  · exact ru_ret (y_call (f := E.f_set_of) G0 hr (a1 (yl 2)) ⟨hazRaw rw, h64, rfl, rfl⟩) rfl
def r_keeps (as : List A4) (r : A4) : Prop := ∃ rw : Rw, rw.Ok ∧ (hazRaw rw).length < 64 ∧ as = [.t rw.t] ∧ r = .t (.bl (decide ((hazL rw).length = 0)))
theorem ok_keeps (E : E9 K mg) {k : Nat} (G1 : Ok9 P w base k E.f_hazards r_hazards) : Ok9 P w base (k + 1) E.f_keeps r_keeps := ok9 sc_keeps fun cdv A outer s H Ex as r hr hl h => by
  obtain ⟨rw, o, h64, rfl, rfl⟩ := h
  refine ru_ret (x := .t (.bl (decide ((hazL rw).length = 0)))) ?_ rfl
  refine Py.eq (y_eq (y_len (y_callT (f := E.f_hazards) G1 hr (a1 (yv 0)) ⟨rw, o, h64, rfl, rfl⟩) E.b_len) y_int) ?_
  rw [List.length_map, v_int]
  congr 1
  rw [Bool.eq_iff_iff]
  simp
end
end Nine
set_option maxHeartbeats 4000000
/-! K9Q: == of data. -/
namespace Nine
open PySem PySem.Spec PyProof.Rows L2
section
variable {K : PySem.W.Frag} {H : Hp}
theorem dp_strs : ∀ xs : List Str, DpAll K H (xs.map V.str) (xs.map PyData.str)
  | [] => .nil
  | x :: xs => .cons (.str x) (dp_strs xs)
mutual
theorem Im.dp : ∀ {t : T} {v : V}, Im K H v t → Dp K H v t.d
  | .non, _, h => by cases h; simp only [T.d]; exact Dp.non
  | .bl b, _, h => by cases h; simp only [T.d]; exact .bl b
  | .int i, _, h => by cases h; simp only [T.d]; exact .int i
  | .str x, _, h => by cases h; simp only [T.d]; exact .str x
  | .tup ts, _, h => by
    cases h with
    | tup hs ha => simp only [T.d]; exact .tup hs (ImAll.dp ha)
  | .tuf xs, _, h => by
    cases h with
    | tuf hs hd => simp only [T.d]; exact .tup (.inl (.inr ⟨_, hs⟩)) (dp_strs xs)
  | .lst ts, _, h => by
    cases h with
    | lst hs ha => simp only [T.d]; exact .lst (.inl (.inr ⟨_, hs⟩)) (ImAll.dp ha)
theorem ImAll.dp : ∀ {ts : List T} {vs : List V}, ImAll K H vs ts → DpAll K H vs (T.ds ts)
  | [], _, h => by cases h; simp only [T.ds]; exact .nil
  | t :: ts, _, h => by
    cases h with
    | cons h1 h2 => simp only [T.ds]; exact .cons (Im.dp h1) (ImAll.dp h2)
end
end
/-- what may be compared: a value, a list -/
def A4.dt : A4 → PyData
  | .t u => T.d u
  | .s us => .list (T.ds us)
  | .d _ => .none
def A4.cmp : A4 → Prop
  | .d _ => False
  | a => SeqAt.shaped a.dt = true
theorem arg_dp {K : PySem.W.Frag} {H : Hp} {v : V} : ∀ {a : A4}, ArgOk K H v a → a.cmp → Dp K H v a.dt
  | .t _, h, _ => Im.dp h
  | .s _, ⟨p, xs, e, hs, m⟩, _ => by subst e; exact .lst hs m.dp
  | .d _, _, z => z.elim
theorem A4.cmp.sh : ∀ {a : A4}, a.cmp → SeqAt.shaped a.dt = true
  | .t _, h => h
  | .s _, h => h
  | .d _, z => z.elim
section
variable {X : Cx} {a b : Expr} {ρ : List Sl} {pos : Pos} {x y : A4}
theorem ArgOk.mono' {K : PySem.W.Frag} {H H' : Hp} (e : Same H H') {v : V} {a : A4} (h : ArgOk K H v a) : ArgOk K H' v a := h.mono e
theorem y_eqD (hu : X.A.units + 64 < cLine) (ha : PyA X a ρ x) (hb : PyA X b ρ y) (cx : x.cmp) (cy : y.cmp) : Py X (.Compare a [.Eq] [b] pos) ρ (.bl (PyData.eqv x.dt y.dt)) :=
  y_cmp (op_eqD hu) ha hb (nomark _) fun H u H1 v H2 Q s1 s2 q1 q2 q => ⟨x.dt, y.dt, arg_dp (q1.mono s2) cx, arg_dp q2 cy, cx.sh, cy.sh, q H2 (s1.trans s2)⟩
theorem t_eqD (hu : X.A.units + 64 < cLine) (ha : PyA X a ρ x) (hb : PyA X b ρ y) (cx : x.cmp) (cy : y.cmp) : Pt X (.Compare a [.Eq] [b] pos) ρ (PyData.eqv x.dt y.dt) :=
  t_cmp (op_eqD hu) ha hb (nomark _) fun H u H1 v H2 Q s1 s2 q1 q2 q => ⟨x.dt, y.dt, arg_dp (q1.mono s2) cx, arg_dp q2 cy, cx.sh, cy.sh, q H2 (s1.trans s2)⟩
theorem t_neD (hu : X.A.units + 64 < cLine) (ha : PyA X a ρ x) (hb : PyA X b ρ y) (cx : x.cmp) (cy : y.cmp) : Pt X (.Compare a [.NotEq] [b] pos) ρ (!PyData.eqv x.dt y.dt) :=
  t_cmp (op_neD hu) ha hb (nomark _) fun H u H1 v H2 Q s1 s2 q1 q2 q => ⟨x.dt, y.dt, arg_dp (q1.mono s2) cx, arg_dp q2 cy, cx.sh, cy.sh, q H2 (s1.trans s2)⟩
end
/-! ### plain terms: == is = -/
mutual
def T.pl : T → Bool
  | .bl _ => false
  | .tuf _ => false
  | .lst _ => false
  | .tup ts => T.pls ts
  | _ => true
def T.pls : List T → Bool
  | [] => true
  | t :: ts => t.pl && T.pls ts
end
mutual
theorem eqv_pl : ∀ (t u : T), t.pl = true → u.pl = true → (PyData.eqv t.d u.d = true ↔ t = u)
  | .non, u, _, hu => by
    cases u <;> simp [T.d, PyData.eqv, T.pl] at hu ⊢
  | .int i, u, _, hu => by
    cases u <;> simp [T.d, PyData.eqv, T.pl] at hu ⊢
  | .str x, u, _, hu => by
    cases u <;> simp [T.d, PyData.eqv, T.pl] at hu ⊢
  | .bl b, u, h, _ => by simp [T.pl] at h
  | .tuf xs, u, h, _ => by simp [T.pl] at h
  | .lst xs, u, h, _ => by simp [T.pl] at h
  | .tup ts, u, h, hu => by
    cases u with
    | tup us =>
      simp only [T.pl] at h hu
      simp only [T.d, PyData.eqv, T.tup.injEq]
      exact eqvs_pl ts us h hu
    | tuf xs => simp [T.pl] at hu
    | lst xs => simp [T.pl] at hu
    | bl b => simp [T.pl] at hu
    | _ => simp [T.d, PyData.eqv]
theorem eqvs_pl : ∀ (ts us : List T), T.pls ts = true → T.pls us = true → (PyData.eqvAll (T.ds ts) (T.ds us) = true ↔ ts = us)
  | [], us, _, _ => by cases us <;> simp [T.ds, PyData.eqvAll]
  | t :: ts, us, h, hu => by
    cases us with
    | nil => simp [T.ds, PyData.eqvAll]
    | cons u us =>
      simp only [T.pls, Bool.and_eq_true] at h hu
      simp only [T.ds, PyData.eqvAll, Bool.and_eq_true, List.cons.injEq]
      rw [eqv_pl t u h.1 hu.1, eqvs_pl ts us h.2 hu.2]
end
/-- plain, of texts that can be, n deep at most -/
structure Gd (n : Nat) (t : T) : Prop where
  pl : t.pl = true
  ok : t.d.canLay0 = true
  dp : t.d.depth ≤ n
theorem Gd.mono {m n : Nat} {t : T} (h : Gd m t) (e : m ≤ n) : Gd n t := ⟨h.pl, h.ok, Nat.le_trans h.dp e⟩
theorem gd_tup {n : Nat} {ts : List T} (h : ∀ t ∈ ts, Gd n t) : Gd (n + 1) (.tup ts) := by
  have key : T.pls ts = true ∧ PyData.canLayAll0 (T.ds ts) = true ∧ PyData.depthAll (T.ds ts) ≤ n := by
    induction ts with
    | nil => exact ⟨rfl, rfl, Nat.zero_le _⟩
    | cons t ts ih =>
      obtain ⟨a, b, c⟩ := ih fun u hu => h u (List.mem_cons_of_mem _ hu)
      have g := h t List.mem_cons_self
      simp only [T.pls, T.ds, PyData.canLayAll0, PyData.depthAll, Bool.and_eq_true]
      exact ⟨⟨g.pl, a⟩, ⟨g.ok, b⟩, Nat.max_le.mpr ⟨g.dp, c⟩⟩
  refine ⟨by simp only [T.pl]; exact key.1, by simp only [T.d, PyData.canLay0]; exact key.2.1, ?_⟩
  simp only [T.d, PyData.depth]
  exact Nat.succ_le_succ key.2.2
theorem gd_int (n : Nat) (i : Int) : Gd n (.int i) := ⟨rfl, rfl, Nat.zero_le _⟩
theorem gd_str {x : Str} (n : Nat) (h : PyData.strOk x = true) : Gd n (.str x) := ⟨rfl, h, Nat.zero_le _⟩
theorem gd_non (n : Nat) : Gd n .non := ⟨rfl, rfl, Nat.zero_le _⟩
theorem Gd.sh {n : Nat} {t : T} (h : Gd n t) (e : n ≤ 64) : SeqAt.shaped t.d = true := by
  unfold SeqAt.shaped
  rw [h.ok, Bool.true_and]
  exact decide_eq_true (Nat.le_trans h.dp e)
theorem Gd.eqv {m n : Nat} {t u : T} (h : Gd m t) (g : Gd n u) : PyData.eqv t.d u.d = true ↔ t = u := eqv_pl t u h.pl g.pl
open Classical in
theorem Gd.eqv' {m n : Nat} {t u : T} (h : Gd m t) (g : Gd n u) : PyData.eqv t.d u.d = decide (t = u) := by
  rw [Bool.eq_iff_iff, h.eqv g, decide_eq_true_eq]
end Nine
set_option maxHeartbeats 4000000
namespace Nine
open PySem PySem.Spec PyProof.Rows L2
section
variable {P : Program} {w : World} {K : PySem.W.Frag} {mg : Str → Option Value} {base : Heap}
def withT (cells : List Str) (cts : List T) (g : Str) (t : T) : List T := (cells.zip cts).map fun p => if p.1 = g then t else p.2
def r_with_term (as : List A4) (r : A4) : Prop := ∃ (cells : List Str) (cts : List T) (g : Str) (t : T), cells.length = cts.length ∧ as = [.t (.tup (cells.map T.str)), .t (.tup cts), .t (.str g), .t t] ∧ r = .t (.tup (withT cells cts g t))
theorem zip_strs (cells : List Str) (cts : List T) : List.zipWith (fun a b => T.tup [a, b]) (cells.map T.str) cts = (cells.zip cts).map fun p => T.tup [.str p.1, p.2] := by
  induction cells generalizing cts with
  | nil => rfl
  | cons c cells ih =>
    cases cts with
    | nil => rfl
    | cons t cts =>
      rw [List.map_cons, List.zipWith_cons_cons, ih, List.zip_cons_cons, List.map_cons]
theorem v_str_eq {a b : Str} : decide ((T.str a).v = (T.str b).v) = decide (a = b) := by
  show decide (V.str a = V.str b) = decide (a = b)
  rw [Bool.eq_iff_iff]
  simp
theorem ok_with_term (E : E9 K mg) : Ok9 P w base 1 E.f_with_term r_with_term := ok9 sc_with_term fun cdv A outer s H Ex as r hr hl h => by
  obtain ⟨cells, cts, g, t, hlen, rfl, rfl⟩ := h
  refine ru_ret (y_tupleL (PyN.arg (y_lm (own := [("cell", 4), ("own", 5)]) (cells.zip cts) (fun p => T.tup [.str p.1, p.2]) (fun p => if p.1 = g then t else p.2) [4, 5] rfl sc_with_term.nd
    ((i_zipT (yv 0) (yv 1) (by rw [List.length_map, hlen]) E.b_zip).eq (zip_strs _ _)).c (blkOk_by (N := n_with_term) (sc := defScope s_with_term) (by decide +kernel)) (by decide) ?_)) E.b_tuple) rfl
  intro p hp
  refine ⟨_, fun s H C cl fp => ⟨g_tup rfl (gs_cons (g_name 4 sc_with_term.nd) (gs_cons (g_name 5 sc_with_term.nd) gs_nil)), ?_⟩⟩
  by_cases e : p.1 = g
  · rw [if_pos e]
    exact y_if ((t_eq (yv 4) (yv 2)).eq v_str_eq) (fun _ => yv 3) (fun z => absurd e (of_decide_eq_false z))
  · rw [if_neg e]
    exact y_if ((t_eq (yv 4) (yv 2)).eq v_str_eq) (fun z => absurd (of_decide_eq_true z) e) (fun _ => yv 5)
end
end Nine
set_option maxHeartbeats 4000000
/-! K9R6: losses, walked. -/
namespace Nine
open PySem PySem.Spec PyProof.Rows L2
theorem with_up {cells : List Str} {h : Ct} {g : Str} {t : T} : withT cells (cells.map h) g t = cells.map (upC h g t) := by
  unfold withT
  rw [List.zip_map_right, List.map_map]
  have : cells.zip cells = cells.map fun c => (c, c) := by
    induction cells with
    | nil => rfl
    | cons c l ih => rw [List.zip_cons_cons, ih]; rfl
  rw [this, List.map_map]
  rfl
def cT (cells : List Str) (h : Ct) : T := .tup (cells.map h)
theorem last_ix {α : Type} {f : α → T} {l : List α} {x : α} (h : l.getLast? = some x) : atI (l.map f) (-1) = some (f x) := by
  have hne : l ≠ [] := by intro z; rw [z] at h; cases h
  have hl : 0 < l.length := List.length_pos_iff.mpr hne
  have e2 : ixN l.length (-1) = some (l.length - 1) := by
    unfold ixN
    split <;> first | omega | skip
    all_goals first
      | (simp; omega)
      | (split <;> first | omega | (simp; omega) | rfl)
  unfold atI
  rw [List.length_map, e2]
  rw [List.getLast?_eq_getElem?] at h
  show (l.map f)[l.length - 1]? = _
  rw [List.getElem?_map, h]
  rfl
theorem lastC_some {fs : List Ct} (h : fs ≠ []) : fs.getLast? = some (lastC fs) := by
  unfold lastC
  cases e : fs.getLast? with
  | none => exact absurd (List.getLast?_eq_none_iff.mp e) h
  | some x => rfl
theorem go_len {r : Rw} : ∀ (l : List Nat) (fs : List Ct), (l.foldl (goSt r) fs).length = fs.length + l.length
  | [], fs => by simp
  | n :: l, fs => by
    rw [List.foldl_cons, go_len l]
    unfold goSt
    rw [List.length_append, List.length_singleton, List.length_cons]
    omega
section
variable {P : Program} {w : World} {K : PySem.W.Frag} {mg : Str → Option Value} {base : Heap}
section
variable {X : Cx} {e : Expr} {ρ : List Sl} {pos p : Pos}
theorem y_tupleF {l : List Str} (h : Py X e ρ (.tuf l)) (hm : X.mg "tuple" = none) (hg : Gl X "tuple" := by rfl) (he : starEach [e] X.env = (false, eval e X.env) :: starEach [] X.env := by rfl) : Py X (.Call (.Name "tuple" p) [e] [] pos) ρ (.tuf l) :=
  y_bt call_tuple_of hm (by decide +kernel) (a1 h he) (fun H vs H1 Q s1 q1 q => by
    obtain ⟨v, rfl, h1⟩ := args1 q1
    have h1' : Im X.K H1 v (.tuf l) := h1
    cases h1' with
    | tuf hs hd => exact ⟨_, _, rfl, .inr ⟨.inl (.inr ⟨_, hs⟩), q _ _ s1 (.tuf hs hd)⟩⟩) hg (by decide) (by decide) he
end
def r_behind_losses (as : List A4) (r : A4) : Prop := ∃ (rw : Rw) (h : Ct) (n : Nat), rw.Ok ∧ n < rw.mv.length ∧ as = [.t rw.tf, .t (cT rw.cells h), .t (natT n)] ∧ r = .t (cT rw.cells (stepF (mvAt rw n) h))
theorem ok_behind_losses (E : E9 K mg) {k : Nat} (G1 : Ok9 P w base k E.f_with_term r_with_term) : Ok9 P w base (k + 1) E.f_held_behind_losses r_behind_losses := ok9 sc_held_behind_losses fun cdv A outer s H Ex as r hr hl h => by
  obtain ⟨rw, h, n, o, hn, rfl, rfl⟩ := h
  have om := o.mv _ (mv_mem hn)
  refine ru_set 3 (y := .t (.tuf rw.cells)) sc_held_behind_losses.nd (y_tupleF (y_fc 0 (yv 0)) E.b_tuple) ?_
  refine ru_unt (ts := [.str (mvAt rw n).nm, .tup ((mvAt rw n).rd.map T.str), .str (mvAt rw n).gl]) rfl (y_ixM (f := Mv.t) (y_fd 2 (yv 0) E.c_GOAL) (yv 2) (mv_at hn)) (gs_cons (g_name 5 sc_held_behind_losses.nd) (gs_cons (g_name 6 sc_held_behind_losses.nd) (gs_cons (g_name 7 sc_held_behind_losses.nd) gs_nil))) ?_
  refine ru_set 4 (y := .t (.tup ((mvAt rw n).rd.map h))) sc_held_behind_losses.nd (y_tupleL (PyN.arg ?q) E.b_tuple) ?_
  case q =>
    refine y_lm (own := [("cell", 8)]) (mvAt rw n).rd T.str h [8] rfl sc_held_behind_losses.nd ((i_tup (yv 6)).c) (blkOk_by (N := n_held_behind_losses) (sc := defScope s_held_behind_losses) (by decide +kernel)) (by decide) fun c hc => ?_
    obtain ⟨j, hj⟩ := List.getElem?_of_mem (om.rd c hc)
    refine ⟨_, fun s H C cl fp => ⟨g_name 8 sc_held_behind_losses.nd, y_ixM (f := h) (yv 1) (y_index (yv 3) (yv 8) hj fun m hm z => ?_) hj⟩⟩
    have h1 := (List.getElem?_eq_some_iff.mp hj)
    have h2 := (List.getElem?_eq_some_iff.mp z)
    obtain ⟨a1, b1⟩ := h1
    obtain ⟨a2, b2⟩ := h2
    exact List.pairwise_iff_getElem.mp o.nd m j a2 a1 hm (b2.trans b1.symm)
  refine ru_ret (x := .t (cT rw.cells (stepF (mvAt rw n) h))) ?_ rfl
  refine Py.eq (y_callT (f := E.f_with_term) G1 hr (a_cons (Py.low (yv 3)) (a_cons (yv 1) (a_cons (yv 7) (a1 (x := .t (termF (mvAt rw n) h)) ?_)))) ⟨rw.cells, rw.cells.map h, (mvAt rw n).gl, termF (mvAt rw n) h, (List.length_map _).symm, rfl, rfl⟩) ?_
  · refine y_if (k := decide ((mvAt rw n).nm = "copy")) (t_eqS (yv 5) (y_gs E.c_COPY_rows)) (fun hk => ?_) fun hk => ?_
    · have hc := of_decide_eq_true hk
      have hlen := om.cp hc
      have e : termF (mvAt rw n) h = h ((mvAt rw n).rd.getD 0 "") := by unfold termF; rw [if_pos hc]
      rw [e]
      refine y_fc 0 (yv 4) ?_
      rw [List.getElem?_map, List.getD_eq_getElem?_getD]
      simp [show 0 < (mvAt rw n).rd.length by omega]
    · have hc := of_decide_eq_false hk
      have e : termF (mvAt rw n) h = T.tup [.str (mvAt rw n).nm, .tup ((mvAt rw n).rd.map h)] := by unfold termF; rw [if_neg hc]
      rw [e]
      exact y_tup (b_cons (yv 5) (b_cons (yv 4) b_nil))
  · rw [with_up]
    rfl
def pT (p : Option Nat) : T := .tup (p.toList.map natT)
def r_along (as : List A4) (r : A4) : Prop := ∃ (rw : Rw) (p : Option Nat), rw.Ok ∧ (∀ k, p = some k → k < rw.mv.length) ∧ as = [.t rw.tf, .t (pT p)] ∧ r = .s ((alongL rw p).map (cT rw.cells))
theorem go_ne {r : Rw} {l : List Nat} {fs : List Ct} (h : fs ≠ []) : l.foldl (goSt r) fs ≠ [] := by
  intro z
  have := go_len (r := r) l fs
  rw [z] at this
  have h2 : 0 < fs.length := List.length_pos_iff.mpr h
  rw [List.length_nil] at this
  omega
theorem ok_along (E : E9 K mg) {k : Nat} (G1 : Ok9 P w base k E.f_with_term r_with_term) (G2 : Ok9 P w base k E.f_held_behind_losses r_behind_losses) (G3 : Ok9 P w base k E.f_mark_below_losses r_mark) : Ok9 P w base (k + 1) E.f_contents_along r_along := ok9 sc_contents_along fun cdv A outer s H Ex as r hr hl h => by
  obtain ⟨rw, p, o, hp, rfl, rfl⟩ := h
  have hlm := o.lm
  -- row 0, play 1, number 2, found 3, here 4, place 5, lost 6, cell 7
  refine ru_par 3 4 (u := .s [cT rw.cells oldT]) (w := .t (natT 0)) rfl sc_contents_along.nd (by decide) (y_lst (b_cons (y_tupleL (PyN.arg ?q) E.b_tuple) b_nil)) y_int ?_
  case q =>
    exact y_lm (own := [("cell", 7)]) rw.cells T.str oldT [7] rfl sc_contents_along.nd ((i_tup (y_fc 0 (yv 0)).low).c) (blkOk_by (N := n_contents_along) (sc := defScope s_contents_along) (by decide +kernel)) (by decide)
      fun c hc => ⟨_, fun s H C cl fp => ⟨g_name 7 sc_contents_along.nd, y_tup (b_cons (y_gs E.c_OLD_losses) (b_cons (yv 7) b_nil))⟩⟩
  refine ru_fold (List.range p.toList.length) (fun i => T.tup [natT i, (p.toList.map natT).getD i .non]) (alSt rw p) ([oldT], 0) (fun st => [.val rw.tf, .val (pT p), .no, .own (st.1.map (cT rw.cells)), .val (natT st.2), .no, .no, .no]) rfl rfl ?q (fun i x b hx hb => ?_) (fun _ => rfl) ?_
  case q =>
    refine PiI.eq (i_enumT (yv 1) E.b_enumerate) ?_
    rw [List.length_map]
  · cases p with
    | none => simp at hx
    | some q =>
      have hi : i = 0 ∧ x = 0 := by
        cases i with
        | zero => simp at hx; exact ⟨rfl, hx.symm⟩
        | succ i => simp at hx
      obtain ⟨rfl, rfl⟩ := hi
      have eb : b = ([oldT], 0) := hb
      subst eb
      have hq := hp q rfl
      refine ⟨_, _, g_tup rfl (gs_cons (g_name 5 sc_contents_along.nd) (gs_cons (g_name 6 sc_contents_along.nd) gs_nil)), ?_⟩
      refine ru_fold (List.range' 0 (q - 0)) natT (goSt rw) [oldT] (fun fs => [.val rw.tf, .val (pT (some q)), .no, .own (fs.map (cT rw.cells)), .val (natT 0), .val (natT 0), .val (natT q), .no]) rfl rfl
        (i_rngN (x := 0) (y := q) (yv 4) (yv 6) (by omega) (by omega) E.b_range) (fun j n fs hn hfs => ⟨_, _, g_name 2 sc_contents_along.nd, ?_⟩) (fun _ => rfl) ?_
      · have hn' := List.mem_range'_1.mp (List.mem_of_getElem? hn)
        have hne : fs ≠ [] := by rw [hfs]; exact go_ne (by simp)
        have hfl : fs.length ≤ 100 := by
          have h2 : ((List.range' 0 (q - 0)).take j).length ≤ q := by rw [List.length_take, List.length_range']; omega
          rw [hfs, go_len, List.length_singleton]
          omega
        refine ru_append 3 rfl (y_callT (f := E.f_held_behind_losses) G2 hr (a_cons (yv 0) (a_cons (y_ixL (yl 3) (y_neg y_int) (last_ix (f := cT rw.cells) (lastC_some hne))) (a1 (yv 2)))) ⟨rw, lastC fs, n, o, by omega, rfl, rfl⟩) (ru_forget 2 (ru_end ?_)) (by rw [List.length_map]; omega)
        show _ = [_, _, _, Sl.own ((goSt rw fs n).map (cT rw.cells)), _, _, _, _]
        unfold goSt
        rw [List.map_append]
        rfl
      · generalize hfs : (List.range' 0 (q - 0)).foldl (goSt rw) [oldT] = fs
        have hne : fs ≠ [] := by rw [← hfs]; exact go_ne (by simp)
        have hfl : fs.length ≤ 100 := by
          rw [← hfs, go_len, List.length_singleton, List.length_range']
          omega
        refine ru_append 3 (t := cT rw.cells (upC (lastC fs) (mvAt rw q).gl (spoT 0))) rfl ?q2 (ru_set 4 (y := .t (natT (markL rw q))) sc_contents_along.nd (y_callT (f := E.f_mark_below_losses) G3 hr (a_cons (Py.rt (yv 0)) (a1 (yv 6))) ⟨rw, q, o, rfl, rfl⟩) (ru_forget 5 (ru_forget 6 (ru_end ?_)))) (by rw [List.length_map]; omega)
        case q2 =>
          refine Py.eq (y_callT (f := E.f_with_term) G1 hr (a_cons (Py.low (y_fc 0 (yv 0))) (a_cons (y_ixL (yl 3) (y_neg y_int) (last_ix (f := cT rw.cells) (lastC_some hne))) (a_cons (y_fd 2 (y_ixM (f := Mv.t) (y_fd 2 (yv 0) E.c_GOAL) (yv 6) (mv_at hq)) E.c_GOAL) (a1 (x := .t (spoT 0)) (y_tup (b_cons (y_gs E.c_SPOILT_losses) (b_cons (yv 5) b_nil)))))))
            ⟨rw.cells, rw.cells.map (lastC fs), (mvAt rw q).gl, spoT 0, (List.length_map _).symm, rfl, rfl⟩) ?_
          rw [with_up]
          rfl
        show _ = [_, _, _, Sl.own ((alSt rw (some q) ([oldT], 0) 0).1.map (cT rw.cells)), _, _, _, _]
        have e : (alSt rw (some q) ([oldT], 0) 0).1 = fs ++ [upC (lastC fs) (mvAt rw q).gl (spoT 0)] := by
          unfold alSt fsRun
          rw [← hfs]
          rfl
        rw [e, List.map_append]
        rfl
  · generalize hst : (List.range p.toList.length).foldl (alSt rw p) ([oldT], 0) = st
    have h0 : st.1 ≠ [] ∧ st.1.length ≤ 100 ∧ st.2 ≤ 10 := by
      cases p with
      | none => rw [← hst]; exact ⟨by simp, by simp, by simp⟩
      | some q =>
        have hq := hp q rfl
        have e : st = alSt rw (some q) ([oldT], 0) 0 := hst.symm
        subst e
        unfold alSt fsRun
        refine ⟨by simp, ?_, ?_⟩
        · rw [List.length_append, go_len, List.length_range']
          simp
          omega
        · show markL rw q ≤ 10
          have hm : markL rw q ∈ (spotsL rw).filter fun s => decide (s ≤ q) := maxL_mem (by
            intro z
            have : (0 : Nat) ∈ (spotsL rw).filter fun s => decide (s ≤ q) := List.mem_filter.mpr ⟨by unfold spotsL; simp, by simp⟩
            rw [z] at this; cases this)
          have := of_decide_eq_true (List.mem_filter.mp hm).2
          omega
    refine ru_fold (List.range' st.2 (rw.mv.length - st.2)) natT (goSt rw) st.1 (fun fs => [.val rw.tf, .val (pT p), .no, .own (fs.map (cT rw.cells)), .val (natT st.2), .no, .no, .no]) rfl rfl
      (i_rngN (x := st.2) (y := rw.mv.length) (yv 4) (Py.eq (y_len (y_fd 2 (yv 0) E.c_GOAL) E.b_len) (by rw [List.length_map]; rfl)) (by omega) (by omega) E.b_range) (fun j n fs hn hfs => ⟨_, _, g_name 2 sc_contents_along.nd, ?_⟩) (fun _ => rfl) (ru_retOwn 3 rfl ?_)
    · have hn' := List.mem_range'_1.mp (List.mem_of_getElem? hn)
      have hne : fs ≠ [] := by rw [hfs]; exact go_ne h0.1
      have hfl : fs.length ≤ 200 := by
        have h2 : ((List.range' st.2 (rw.mv.length - st.2)).take j).length ≤ 10 := by rw [List.length_take, List.length_range']; omega
        rw [hfs, go_len]
        omega
      refine ru_append 3 rfl (y_callT (f := E.f_held_behind_losses) G2 hr (a_cons (yv 0) (a_cons (y_ixL (yl 3) (y_neg y_int) (last_ix (f := cT rw.cells) (lastC_some hne))) (a1 (yv 2)))) ⟨rw, lastC fs, n, o, by omega, rfl, rfl⟩) (ru_forget 2 (ru_end ?_)) (by rw [List.length_map]; omega)
      show _ = [_, _, _, Sl.own ((goSt rw fs n).map (cT rw.cells)), _, _, _, _]
      unfold goSt
      rw [List.map_append]
      rfl
    · unfold alongL fsRun
      rw [← hst]
end
end Nine
set_option maxHeartbeats 4000000
/-! K9R7: last_contents, end_of, losses_against, walked. -/
namespace Nine
open PySem PySem.Spec PyProof.Rows L2
theorem seg_range {r : Rw} {lo hi : Nat} (h : hi ≤ r.mv.length) : (r.mv.take hi).drop lo = (List.range' lo (hi - lo)).map (mvAt r) := by
  refine List.ext_getElem? fun i => ?_
  rw [List.getElem?_drop, List.getElem?_map]
  by_cases hi' : i < hi - lo
  · rw [List.getElem?_take_of_lt (by omega), List.getElem?_range' hi', mv_at (by omega)]
    simp
  · rw [List.getElem?_eq_none (by rw [List.length_take]; omega), List.getElem?_eq_none (by rw [List.length_range']; omega)]
    rfl
theorem runR_range {r : Rw} {lo hi : Nat} {h : Ct} (e : hi ≤ r.mv.length) : runR r lo hi h = (List.range' lo (hi - lo)).foldl (fun h n => stepF (mvAt r n) h) h := by
  unfold runR
  rw [seg_range e, List.foldl_map]
theorem lastC_app {fs : List Ct} {h : Ct} : lastC (fs ++ [h]) = h := by unfold lastC; simp
theorem last_go {r : Rw} : ∀ (l : List Nat) (fs : List Ct), lastC (l.foldl (goSt r) fs) = l.foldl (fun h n => stepF (mvAt r n) h) (lastC fs)
  | [], fs => rfl
  | n :: l, fs => by
    rw [List.foldl_cons, last_go l]
    unfold goSt
    rw [lastC_app]
    rfl
theorem mark_le {r : Rw} {k : Nat} : markL r k ≤ k := by
  have hm : markL r k ∈ (spotsL r).filter fun s => decide (s ≤ k) := maxL_mem (by
    intro z
    have : (0 : Nat) ∈ (spotsL r).filter fun s => decide (s ≤ k) := List.mem_filter.mpr ⟨by unfold spotsL; simp, by simp⟩
    rw [z] at this; cases this)
  exact of_decide_eq_true (List.mem_filter.mp hm).2
theorem along_last {r : Rw} {p : Option Nat} (hp : ∀ k, p = some k → k < r.mv.length) : lastC (alongL r p) = endC r p := by
  cases p with
  | none =>
    show lastC (fsRun r [oldT] 0 r.mv.length) = runR r 0 r.mv.length oldT
    unfold fsRun
    rw [last_go, runR_range (Nat.le_refl _)]
    rfl
  | some k =>
    have hk := hp k rfl
    show lastC (fsRun r (fsRun r [oldT] 0 k ++ [upC (lastC (fsRun r [oldT] 0 k)) (r.mv.getD k ⟨"", [], ""⟩).gl (spoT 0)]) (markL r k) r.mv.length) = _
    unfold fsRun
    rw [last_go, lastC_app, last_go]
    show _ = runR r (markL r k) r.mv.length (upC (runR r 0 k oldT) _ (spoT 0))
    rw [runR_range (Nat.le_refl _), runR_range (Nat.le_of_lt hk)]
    rfl
theorem along_ne {r : Rw} {p : Option Nat} : alongL r p ≠ [] := by
  unfold alongL fsRun
  refine go_ne ?_
  cases p with
  | none => simp
  | some k => simp [alSt, fsRun]
/-! ### terms are good -/
def CtGd (r : Rw) (n : Nat) (h : Ct) : Prop := ∀ c ∈ r.cells, Gd n (h c)
theorem step_gd {r : Rw} (o : r.Ok) {n : Nat} {h : Ct} {m : Mv} (hm : m ∈ r.mv) (g : CtGd r n h) : CtGd r (n + 2) (stepF m h) := fun c hc => by
  have om := o.mv m hm
  show Gd (n + 2) (if c = m.gl then termF m h else h c)
  split
  · unfold termF
    split
    · rename_i hcp
      have hl := om.cp hcp
      have h0 : m.rd[0]? = some (m.rd.getD 0 "") := by
        rw [List.getD_eq_getElem?_getD]; simp [show 0 < m.rd.length by omega]
      exact (g _ (om.rd _ (List.mem_of_getElem? h0))).mono (by omega)
    · refine gd_tup fun t ht => ?_
      simp only [List.mem_cons, List.not_mem_nil, or_false] at ht
      rcases ht with e | e
      · rw [e]; exact gd_str _ om.nk
      · rw [e]
        refine gd_tup fun u hu => ?_
        obtain ⟨d, hd, rfl⟩ := List.mem_map.mp hu
        exact g d (om.rd d hd)
  · exact (g c hc).mono (by omega)
theorem fold_gd {r : Rw} (o : r.Ok) : ∀ (ms : List Mv) (n : Nat) (h : Ct), (∀ m ∈ ms, m ∈ r.mv) → CtGd r n h → CtGd r (n + 2 * ms.length) (ms.foldl (fun h m => stepF m h) h)
  | [], n, h, _, g => g
  | m :: ms, n, h, hm, g => by
    rw [List.foldl_cons]
    have := fold_gd o ms (n + 2) (stepF m h) (fun x hx => hm x (List.mem_cons_of_mem _ hx)) (step_gd o (hm m List.mem_cons_self) g)
    rw [List.length_cons, show n + 2 * (ms.length + 1) = n + 2 + 2 * ms.length by omega]
    exact this
theorem run_gd {r : Rw} (o : r.Ok) {lo hi n : Nat} {h : Ct} (g : CtGd r n h) : CtGd r (n + 20) (runR r lo hi h) := fun c hc => by
  have hlm := o.lm
  have := fold_gd o ((r.mv.take hi).drop lo) n h (fun m hm => List.mem_of_mem_take (List.mem_of_mem_drop hm)) g c hc
  refine this.mono ?_
  rw [List.length_drop, List.length_take]
  omega
theorem old_gd {r : Rw} (o : r.Ok) : CtGd r 1 oldT := fun c hc => gd_tup fun t ht => by
  simp only [List.mem_cons, List.not_mem_nil, or_false] at ht
  rcases ht with e | e
  · rw [e]; exact gd_str _ (by decide +kernel)
  · rw [e]; exact gd_str _ (o.ck c hc)
theorem spo_gd {n : Nat} : Gd 1 (spoT n) := gd_tup fun t ht => by
  simp only [List.mem_cons, List.not_mem_nil, or_false] at ht
  rcases ht with e | e
  · rw [e]; exact gd_str _ (by decide +kernel)
  · rw [e]; exact gd_int _ _
theorem end_gd {r : Rw} (o : r.Ok) {p : Option Nat} : CtGd r 41 (endC r p) := by
  cases p with
  | none => exact fun c hc => (run_gd o (old_gd o) c hc).mono (by omega)
  | some k =>
    refine run_gd o (n := 21) fun c hc => ?_
    show Gd 21 (if c = _ then spoT 0 else runR r 0 k oldT c)
    split
    · exact spo_gd.mono (by omega)
    · exact run_gd o (old_gd o) c hc
theorem endL_gd {r : Rw} (o : r.Ok) {p : Option Nat} : Gd 42 (.tup (endL r p)) := gd_tup fun t ht => by
  obtain ⟨c, hc, rfl⟩ := List.mem_map.mp ht
  exact end_gd o c (want_sub o hc)
/-- END is another one where the move k is lost -/
def lostB (r : Rw) (k : Nat) : Bool := !PyData.eqv (T.tup (endL r (some k))).d (T.tup (endL r none)).d
theorem lost_iff {r : Rw} (o : r.Ok) {k : Nat} : lostB r k = true ↔ endL r (some k) ≠ endL r none := by
  unfold lostB
  rw [Bool.not_eq_true', ← Bool.not_eq_true, (endL_gd o).eqv (endL_gd o)]
  simp
section
variable {P : Program} {w : World} {K : PySem.W.Frag} {mg : Str → Option Value} {base : Heap}
def r_last (as : List A4) (r : A4) : Prop := ∃ (rw : Rw) (p : Option Nat), rw.Ok ∧ (∀ k, p = some k → k < rw.mv.length) ∧ as = [.t rw.tf, .t (pT p)] ∧ r = .t (cT rw.cells (endC rw p))
theorem ok_last (E : E9 K mg) {k : Nat} (G1 : Ok9 P w base k E.f_contents_along r_along) : Ok9 P w base (k + 1) E.f_last_contents r_last := ok9 sc_last_contents fun cdv A outer s H Ex as r hr hl h => by
  obtain ⟨rw, p, o, hp, rfl, rfl⟩ := h
  refine ru_ret (x := .t (cT rw.cells (endC rw p))) ?_ rfl
  refine y_ixL (PyN.arg (y_call (f := E.f_contents_along) G1 hr (a_cons (yv 0) (a1 (yv 1))) ⟨rw, p, o, hp, rfl, rfl⟩)) (y_neg y_int) ?_
  rw [← along_last hp]
  exact last_ix (lastC_some along_ne)
def r_end_of (as : List A4) (r : A4) : Prop := ∃ (rw : Rw) (p : Option Nat), rw.Ok ∧ (∀ k, p = some k → k < rw.mv.length) ∧ as = [.t rw.tf, .t (pT p)] ∧ r = .t (.tup (endL rw p))
theorem ok_end_of (E : E9 K mg) {k : Nat} (G1 : Ok9 P w base k E.f_last_contents r_last) : Ok9 P w base (k + 1) E.f_end_of r_end_of := ok9 sc_end_of fun cdv A outer s H Ex as r hr hl h => by
  obtain ⟨rw, p, o, hp, rfl, rfl⟩ := h
  refine ru_ret (y_tupleL (PyN.arg ?q) E.b_tuple) rfl
  refine PyL.eq (y_lc (own := [("cell", 2), ("own", 3)]) rw.cells (fun c => T.tup [.str c, endC rw p c]) (fun c => decide (c ∈ rw.want)) (endC rw p) [2, 3] rfl sc_end_of.nd ?z (blkOk_by (N := n_end_of) (sc := defScope s_end_of) (by decide +kernel)) (by decide)
    fun c hc => ⟨_, fun s H C cl fp => ⟨⟨g_tup rfl (gs_cons (g_name 2 sc_end_of.nd) (gs_cons (g_name 3 sc_end_of.nd) gs_nil)), ts_one (t_inS (yv 2) (y_fc 1 (yv 0)))⟩, fun _ => yv 3⟩⟩) ?_
  case z =>
    refine (PiI.eq (i_zipT (Py.low (y_fc 0 (yv 0))) (y_callT (f := E.f_last_contents) G1 hr (a_cons (yv 0) (a1 (yv 1))) ⟨rw, p, o, hp, rfl, rfl⟩) (by rw [List.length_map, List.length_map]) E.b_zip) ?_).c
    rw [zip_strs, List.zip_map_right, List.map_map]
    have : rw.cells.zip rw.cells = rw.cells.map fun c => (c, c) := by
      induction rw.cells with
      | nil => rfl
      | cons c l ih => rw [List.zip_cons_cons, ih]; rfl
    rw [this, List.map_map]
    rfl
  · rw [← o.wc]
    rfl
def r_losses (as : List A4) (r : A4) : Prop := ∃ rw : Rw, rw.Ok ∧ as = [.t rw.tf] ∧ r = .t (.tup (((List.range rw.mv.length).filter (lostB rw)).map natT))
theorem ok_losses (E : E9 K mg) {k : Nat} (G1 : Ok9 P w base k E.f_end_of r_end_of) : Ok9 P w base (k + 1) E.f_losses_against r_losses := ok9 sc_losses_against fun cdv A outer s H Ex as r hr hl h => by
  obtain ⟨rw, o, rfl, rfl⟩ := h
  have hlm := o.lm
  refine ru_set 1 (y := .t (.tup (endL rw none))) sc_losses_against.nd (y_callT (f := E.f_end_of) G1 hr (a_cons (yv 0) (a1 (x := .t (pT none)) (y_tup b_nil))) ⟨rw, none, o, (fun _ z => nomatch z), rfl, rfl⟩) ?_
  refine ru_ret (y_tupleL (PyN.arg ?q) E.b_tuple) rfl
  exact y_lc (own := [("number", 2)]) (List.range rw.mv.length) natT (lostB rw) natT [2] rfl sc_losses_against.nd ((i_rng (n := rw.mv.length) (Py.eq (y_len (y_fd 2 (yv 0) E.c_GOAL) E.b_len) (by rw [List.length_map]; rfl)) (by omega) E.b_range).c) (blkOk_by (N := n_losses_against) (sc := defScope s_losses_against) (by decide +kernel)) (by decide)
    fun n hn => ⟨_, fun s H C cl fp => ⟨⟨g_name 2 sc_losses_against.nd, ts_one (t_neD (x := .t (.tup (endL rw (some n)))) (y := .t (.tup (endL rw none))) hr.units (y_callT (f := E.f_end_of) G1 hr (a_cons (yv 0) (a1 (x := .t (pT (some n))) (y_tup (b_cons (yv 2) b_nil)))) ⟨rw, some n, o, fun k e => by cases e; exact List.mem_range.mp hn, rfl, rfl⟩) (yv 1) ((endL_gd o).sh (by omega)) ((endL_gd o).sh (by omega)))⟩, fun _ => yv 2⟩⟩
end
end Nine
set_option maxHeartbeats 4000000
/-! K9Z: dict(zip(t, u)) of two tuples. -/
namespace Nine
open PySem PySem.Spec PyProof.Rows L2
open Sem (wp)
section
variable {prog : Program} {w : World} {A : Around} {E : Value → Shared → Prop} {s : Shared} {z TI TO T i1 i2 : Addr} {fp1 fp2 : List Addr} {n1 n2 i : Nat} {P1 P2 : Nat → Value → Prop} {St1 St2 : Nat → Heap → Prop} {f : Bool} {oT : Obj}
/-- next of a zip whose last tuple is still held: any two iterators -/
theorem held_next {Q : Value → Shared → Prop} (S : ZipSep2 z TI TO i1 i2 fp1 fp2) (D1 : Draws prog w A i1 fp1 n1 P1 St1) (D2 : Draws prog w A i2 fp2 n2 P2 St2)
    (hz : IsZipHeld s.heap z TI TO T f) (hT : s.heap.get? T = some oT) (hI : IsTupOf2 s.heap TI (.ref i1) (.ref i2)) (st1 : St1 i s.heap) (st2 : St2 i s.heap) (l1 : i < n1) (l2 : i < n2)
    (k : ∀ x y h' tk, P1 i x → P2 i y → IsZipHeld h' z TI TO T true → St1 (i + 1) h' → St2 (i + 1) h' → IsTupOf2 h' s.heap.objs.size x y →
      (∀ c o, c ≠ z → c ≠ i1 → c ≠ i2 → s.heap.get? c = some o → h'.get? c = some o) → Q (.ref s.heap.objs.size) { s with heap := h', toks := tk }) :
    wpAny (model prog w) A (Builtin.«zip.__next__» ⟨[.ref z], []⟩) (fun fin s' => ∃ v, fin = .done (.ret v) ∧ Q v s') E s := by
  obtain ⟨hp, g, d, tk0, os⟩ := s
  replace hz : IsZipHeld hp z TI TO T f := hz
  replace hI : IsTupOf2 hp TI (.ref i1) (.ref i2) := hI
  show wpAny _ _ (field (.ref z) 2 >>= _) _ _ ⟨hp, g, d, tk0, os⟩
  refine wpAny_bind (wpAny_field hz rfl (x := .bool false) rfl ?_)
  show wpAny _ _ (field (.ref z) 3 >>= _) _ _ ⟨hp, g, d, tk0, os⟩
  refine wpAny_bind (wpAny_field hz rfl (x := .ref TI) rfl (wpAny_bind (wpAny_seqItems hI rfl ?_)))
  show wpAny _ _ (Builtin.SmallTypes.ownedTupleIsFree (.ref z) >>= _) _ _ ⟨hp, g, d, tk0, os⟩
  refine wpAny_bind (wpAny_tupleHeld_zip (s := ⟨hp, g, d, tk0, os⟩) hz hT fun g0 hz0 hs0 => ?_)
  replace hs0 : Heap.SameBut z hp g0 := hs0
  simp only [Bool.false_eq_true, if_false]
  refine wpAny_bind ?_
  rw [← Array.forIn_toList]
  simp only [List.forIn_cons, List.forIn_nil]
  refine wpAny_bind (wpAny_bind (wpAny_holding ?_))
  show wpAny _ _ (Builtin.SmallTypes.nextOf (.ref i1) >>= _) _ _ ⟨g0, g, d, tk0, os⟩
  refine wpAny_bind (D1.item i ⟨g0, g, d, tk0, os⟩ _ _ l1 (D1.over st1 hs0 S.zf1) fun x p1 tk1 hx sn1 hp1 => wpAny_pure (wpAny_pure ?_))
  replace hp1 : Heap.SameBut i1 g0 p1 := hp1
  refine wpAny_bind (wpAny_bind (wpAny_holding ?_))
  show wpAny _ _ (Builtin.SmallTypes.nextOf (.ref i2) >>= _) _ _ ⟨p1, g, d, tk1, os⟩
  refine wpAny_bind (D2.item i ⟨p1, g, d, tk1, os⟩ _ _ l2 (D2.over (D2.over st2 hs0 S.zf2) hp1 S.sep1_2) fun y p2 tk2 hy sn2 hp2 => wpAny_pure (wpAny_pure (wpAny_pure ?_)))
  replace hp2 : Heap.SameBut i2 p1 p2 := hp2
  show wpAny _ _ (newTuple [x, y] >>= _) _ _ ⟨p2, g, d, tk2, os⟩
  refine wpAny_bind (wpAny_newTuple (wpAny_pure ⟨_, rfl, ?_⟩))
  have hsz : p2.objs.size = hp.objs.size := by rw [hp2.1, hp1.1, hs0.1]
  show Q (.ref p2.objs.size) _
  have q := Heap.get?_push_size p2 (o := { cls := .type "tuple", data := .seq #[x, y] }) rfl
  rw [hsz] at q ⊢
  exact k x y _ tk2 hx hy (Heap.get?_push_of_some _ (hp2.extBut _ _ S.zi2 (hp1.extBut _ _ S.zi1 hz0))) (D1.frame _ _ _ (D1.over sn1 hp2 S.sep2_1) fun b _ o e => Heap.get?_push_of_some _ e) (D2.frame _ _ _ sn2 fun b _ o e => Heap.get?_push_of_some _ e) q
    fun c o c0 c1 c2 e => Heap.get?_push_of_some _ (hp2.extBut _ _ c2 (hp1.extBut _ _ c1 (hs0.extBut _ _ c0 e)))
/-- and its end, the two of one length -/
theorem held_stop {Q : Fin → Shared → Prop} (S : ZipSep2 z TI TO i1 i2 fp1 fp2) (D1 : Draws prog w A i1 fp1 n1 P1 St1)
    (hz : IsZipHeld s.heap z TI TO T f) (hT : s.heap.get? T = some oT) (hI : IsTupOf2 s.heap TI (.ref i1) (.ref i2)) (st1 : St1 n1 s.heap)
    (k : ∀ h' e, (∀ c o, c ≠ z → c ≠ i1 → c ≠ i2 → s.heap.get? c = some o → h'.get? c = some o) → (∃ o, h'.get? e = some o ∧ o.cls = .type "StopIteration") → E (.ref e) { s with heap := h' }) :
    wpAny (model prog w) A (Builtin.«zip.__next__» ⟨[.ref z], []⟩) Q E s := by
  obtain ⟨hp, g, d, tk0, os⟩ := s
  replace hz : IsZipHeld hp z TI TO T f := hz
  replace hI : IsTupOf2 hp TI (.ref i1) (.ref i2) := hI
  show wpAny _ _ (field (.ref z) 2 >>= _) _ _ ⟨hp, g, d, tk0, os⟩
  refine wpAny_bind (wpAny_field hz rfl (x := .bool false) rfl ?_)
  show wpAny _ _ (field (.ref z) 3 >>= _) _ _ ⟨hp, g, d, tk0, os⟩
  refine wpAny_bind (wpAny_field hz rfl (x := .ref TI) rfl (wpAny_bind (wpAny_seqItems hI rfl ?_)))
  show wpAny _ _ (Builtin.SmallTypes.ownedTupleIsFree (.ref z) >>= _) _ _ ⟨hp, g, d, tk0, os⟩
  refine wpAny_bind (wpAny_tupleHeld_zip (s := ⟨hp, g, d, tk0, os⟩) hz hT fun g0 hz0 hs0 => ?_)
  replace hs0 : Heap.SameBut z hp g0 := hs0
  simp only [Bool.false_eq_true, if_false]
  refine wpAny_bind ?_
  rw [← Array.forIn_toList]
  simp only [List.forIn_cons, List.forIn_nil]
  refine wpAny_bind (wpAny_bind (wpAny_holding ?_))
  show wpAny _ _ (Builtin.SmallTypes.nextOf (.ref i1) >>= _) _ _ ⟨g0, g, d, tk0, os⟩
  exact wpAny_bind (D1.done ⟨g0, g, d, tk0, os⟩ _ _ (D1.over st1 hs0 S.zf1) fun p1 e hp1 he => k p1 e (fun c o c0 c1 _ x => hp1 _ _ c1 (hs0.extBut _ _ c0 x)) he)
end
section
variable {prog : Program} {w : World}
abbrev TupI (it t : Addr) (xs : Array Value) : Nat → Heap → Prop := fun i h => h.IsTupleIter it t i ∧ h.IsTuple t xs
/-- zip(t, u) of tuples of one length as the argument of dict -/
theorem pairs_zipT (z TI TO i1 i2 l1 l2 : Addr) (S : ZipSep2 z TI TO i1 i2 [i1, l1] [i2, l2]) (n1 : l1 ≠ i1) (n2 : l2 ≠ i2) (hTl : TI ≠ i1 ∧ TI ≠ i2) (xs ys : Array Value) (hl : ys.size = xs.size) :
    PairArg prog w "zip" z [z, TI, TO, i1, i2, l1, l2] [z, TO, i1, i2] xs.size (fun i k v => xs[i]? = some k ∧ ys[i]? = some v)
      (fun h => IsZip h z TI TO .none ∧ IsTupOf2 h TI (.ref i1) (.ref i2) ∧ (∃ a b, IsTupOf2 h TO a b) ∧ TupI i1 l1 xs 0 h ∧ TupI i2 l2 ys 0 h) where
  type := fun s ok => ⟨_, ok.1, rfl⟩
  notDict := by decide
  keep := fun h h' ok hk => by
    obtain ⟨hz, hI, ⟨a, b, hO⟩, h1, h2⟩ := ok
    exact ⟨hk _ _ hz, hk _ _ hI, ⟨a, b, hk _ _ hO⟩, ⟨h1.1.at fun o e => hk _ o e, h1.2.at fun o e => hk _ o e⟩, ⟨h2.1.at fun o e => hk _ o e, h2.2.at fun o e => hk _ o e⟩⟩
  there := fun h ok b hb => by
    obtain ⟨hz, hI, ⟨a, c, hO⟩, ⟨⟨o1, h1, _⟩, ⟨o3, hl1, _⟩⟩, ⟨⟨o2, h2, _⟩, ⟨o4, hl2, _⟩⟩⟩ := ok
    simp only [List.mem_cons, List.not_mem_nil, or_false] at hb
    rcases hb with e | e | e | e | e | e | e <;> subst e
    · exact ⟨_, hz⟩
    · exact ⟨_, hI⟩
    · exact ⟨_, hO⟩
    · exact ⟨_, h1⟩
    · exact ⟨_, h2⟩
    · exact ⟨_, hl1⟩
    · exact ⟨_, hl2⟩
  sub := fun b hb => by
    simp only [List.mem_cons, List.not_mem_nil, or_false] at hb ⊢
    rcases hb with e | e | e | e <;> simp [e]
  noKeys := fun A s Q E hA ok h => getAttrOr_miss_zip ok.1 rfl rfl rfl zip_no_keys (by decide +kernel) hA h
  iter := fun A s d Q E hA ok hd hdf h => by
    obtain ⟨hz, hI, ⟨a, b, hO⟩, h1, h2⟩ := ok
    simp only [List.mem_cons, List.not_mem_nil, or_false, not_or] at hdf
    obtain ⟨dz, dI, dO, d1, d2, dl1, dl2⟩ := hdf
    have D1 := Draws.tuple (prog := prog) (w := w) (A := A.in1) hA i1 l1 n1 xs
    have D2 := Draws.tuple (prog := prog) (w := w) (A := A.in1) hA i2 l2 n2 ys
    refine wpAny_pyIter_zip hz (h z [z, TO, i1, i2] (fun i h => IsTupOf2 h TI (.ref i1) (.ref i2) ∧ TupI i1 l1 xs i h ∧ TupI i2 l2 ys i h ∧
      ((IsZip h z TI TO .none ∧ ∃ a b, IsTupOf2 h TO a b) ∨ ∃ T f oT, IsZipHeld h z TI TO T f ∧ h.get? T = some oT ∧ T ≠ z ∧ T ≠ i1 ∧ T ≠ i2 ∧ T ≠ d)) s.heap s.toks ?_
      ⟨hI, h1, h2, .inl ⟨hz, a, b, hO⟩⟩ (fun _ _ e => e) fun b hb => .inl hb)
    refine { off := ?_, frame := ?_, item := ?_, done := ?_ }
    · intro hm
      simp only [List.mem_cons, List.not_mem_nil, or_false] at hm
      rcases hm with e | e | e | e
      · exact dz e
      · exact dO e
      · exact d1 e
      · exact d2 e
    · intro i ha hb st hk
      obtain ⟨hI, h1, h2, hz⟩ := st
      refine ⟨hk _ _ (Ne.symm dI) hI, ⟨h1.1.at fun o e => hk _ o (Ne.symm d1) e, h1.2.at fun o e => hk _ o (Ne.symm dl1) e⟩, ⟨h2.1.at fun o e => hk _ o (Ne.symm d2) e, h2.2.at fun o e => hk _ o (Ne.symm dl2) e⟩, ?_⟩
      rcases hz with ⟨hz, a, b, hO⟩ | ⟨T, f, oT, hz, hT, r1, r2, r3, r4⟩
      · exact .inl ⟨hk _ _ (Ne.symm dz) hz, a, b, hk _ _ (Ne.symm dO) hO⟩
      · exact .inr ⟨T, f, oT, hk _ _ (Ne.symm dz) hz, hk _ _ r4 hT, r1, r2, r3, r4⟩
    · intro i s₁ Q₁ E₁ hi st hds hQ
      obtain ⟨hI, h1, h2, hz⟩ := st
      have lt : ∀ {c o}, s₁.heap.get? c = some o → s₁.heap.objs.size ≠ c := fun e => Nat.ne_of_gt (Heap.lt_size e)
      have m1 : s₁.heap.objs.size ≠ i1 := let ⟨_, e, _⟩ := h1.1; lt e
      have m2 : s₁.heap.objs.size ≠ i2 := let ⟨_, e, _⟩ := h2.1; lt e
      rcases hz with ⟨hz, a, b, hO⟩ | ⟨T, f, oT, hz, hT, r1, r2, r3, r4⟩
      · refine wpAny_pyNext_zipD2_item S D1 D2 hz hI hO h1 h2 hi (by omega) fun x y h' tk hx hy a1 _ a3 a4 a5 _ hk => ?_
        exact hQ s₁.heap.objs.size x y h' tk ⟨hx, hy⟩ (.inl ⟨_, a5, rfl, _, rfl⟩) ⟨hk _ _ S.TIz S.TITO hTl.1 hTl.2 hI, a3, a4, .inr ⟨s₁.heap.objs.size, false, _, a1, a5, lt hz, m1, m2, Nat.ne_of_gt hds⟩⟩
          fun c o hc e => hk c o (fun x => hc (by simp [x])) (fun x => hc (by simp [x])) (fun x => hc (by simp [x])) (fun x => hc (by simp [x])) e
      · have hTy : s₁.TypeIs (.ref z) "zip" := ⟨_, hz, rfl⟩
        unfold pyNext
        refine wpAny_bind (wpAny_attempt (wpAny_callSpecial?_slot (name := Str.ofString "__next__") hTy F.slot_zip_next (wpAny_call_entry F.slot_zip_next hTy F.entry_zip_next
          (held_next S D1 D2 hz hT hI h1 h2 hi (by omega) fun x y h' tk hx hy a1 a3 a4 a5 hk => wpAny_pure ?_) (F.args_zip_next_1 _))))
        exact hQ s₁.heap.objs.size x y h' tk ⟨hx, hy⟩ (.inl ⟨_, a5, rfl, _, rfl⟩) ⟨hk _ _ S.TIz hTl.1 hTl.2 hI, a3, a4, .inr ⟨T, true, oT, a1, hk _ _ r1 r2 r3 hT, r1, r2, r3, r4⟩⟩
          fun c o hc e => hk c o (fun x => hc (by simp [x])) (fun x => hc (by simp [x])) (fun x => hc (by simp [x])) e
    · intro s₁ Q₁ E₁ st hQ
      obtain ⟨hI, h1, h2, hz⟩ := st
      rcases hz with ⟨hz, a, b, hO⟩ | ⟨T, f, oT, hz, hT, r1, r2, r3, r4⟩
      · exact wpAny_pyNext_zipD2_end S D1 D2 hz hI hO h1 h2 (Nat.le_refl _) (by omega) (.inl rfl) fun h' tk hk => hQ h' tk fun c o hc e => hk c o (fun x => hc (by simp [x])) (fun x => hc (by simp [x])) (fun x => hc (by simp [x])) (fun x => hc (by simp [x])) e
      · have hTy : s₁.TypeIs (.ref z) "zip" := ⟨_, hz, rfl⟩
        unfold pyNext
        refine wpAny_bind (wpAny_attempt (wpAny_callSpecial?_slot (name := Str.ofString "__next__") hTy F.slot_zip_next (wpAny_call_entry F.slot_zip_next hTy F.entry_zip_next (held_stop S D1 hz hT hI h1 fun h' e hk he => ?_) (F.args_zip_next_1 _))))
        obtain ⟨o, ho, hc⟩ := he
        refine wpAny_bind (wpAny_isInstance (T := "StopIteration") (b := true) ⟨o, ho, hc⟩ isSubtype_stop (wpAny_pure ?_))
        exact hQ _ s₁.toks fun c o hc e => hk c o (fun x => hc (by simp [x])) (fun x => hc (by simp [x])) (fun x => hc (by simp [x])) e
end
section
variable {X : Cx} {e e2 : Expr} {ρ : List Sl} {pos pos2 p p2 : Pos}
/-- dict(zip(a, b)), a a tuple of texts -/
def tDz (K : PySem.W.Frag) (ta : TA) : TE := fun σ H Q => ta σ H fun vs H1 => ∃ (a b : Addr) (ks : List Str) (us : List V), vs = [.ref a, .ref b] ∧ SqT K H1 a (ks.map V.str) ∧ SqT K H1 b us ∧ us.length = ks.length ∧
  ∀ q, H1 q = none → Q (.ref q) (upd H1 q (.dK (mergeK [] ((ks.zip us).map fun p => (.inr p.1, p.2)))))
theorem kv_zip {ks : List Str} {us : List V} {as bs : List Value} (ha : Vals (ks.map V.str) as) (hb : Vals us bs) (hl : us.length = ks.length) :
    ∃ rs : List (Key × Value), rs.length = as.length ∧ KV ((ks.zip us).map fun p => ((.inr p.1 : Key), p.2)) rs ∧ ∀ (i : Nat) (k v : Value), as[i]? = some k → bs[i]? = some v → ∃ y : Str, rs[i]? = some ((.inr y : Key), v) ∧ ∃ t, k = Value.str y t := by
  induction ks generalizing us as bs with
  | nil =>
    cases ha
    cases us with
    | nil => exact ⟨[], rfl, .nil, fun i k v h => by simp at h⟩
    | cons u us => simp at hl
  | cons x ks ih =>
    cases us with
    | nil => simp at hl
    | cons u us =>
      cases ha with
      | @cons _ v _ vs hv hvs =>
        cases hb with
        | @cons _ v2 _ vs2 hv2 hvs2 =>
          obtain ⟨rs, h1, h2, h3⟩ := ih hvs hvs2 (by simpa using hl)
          obtain ⟨t, rfl⟩ := hv
          refine ⟨(.inr x, v2) :: rs, by simp [h1], .cons ⟨rfl, hv2⟩ h2, fun i k v h1' h2' => ?_⟩
          cases i with
          | zero =>
            simp only [List.getElem?_cons_zero, Option.some.injEq] at h1' h2'
            subst h1'; subst h2'
            exact ⟨x, rfl, t, rfl⟩
          | succ i => exact h3 i k v (by simpa using h1') (by simpa using h2')
theorem pe_dz {ta : TA} (hc : X.calm = true) (hg : Gl X "dict") (hm : X.mg "dict" = none) (hg2 : Gl X "zip") (hm2 : X.mg "zip" = none) (ha : PA X [e, e2] ta)
    (hs : starEach [e, e2] X.env = (false, eval e X.env) :: starEach [e2] X.env := by rfl) (hpl : (backTo pos2 (starEach [e2] X.env)).any (·.1) = false := by rfl)
    (hs0 : starEach [.Call (.Name "zip" p2) [e, e2] [] pos2] X.env = (false, eval (.Call (.Name "zip" p2) [e, e2] [] pos2) X.env) :: starEach [] X.env := by rfl) (hpl0 : (backTo pos (starEach [] X.env)).any (·.1) = false := by rfl) :
    PE X (.Call (.Name "dict" p) [.Call (.Name "zip" p2) [e, e2] [] pos2] [] pos) (tDz X.K ta) := by
  refine ⟨fun pins s σ H Q I h => ?_⟩
  refine Call_ (ld_blt I hg hm PyProof.Rows.boot_dict (PyProof.Rows.callWith_type1 ?_ hs0 hpl0))
  rw [hs0]
  show wpAny _ _ (spliced ((false, eval (.Call (.Name "zip" p2) [e, e2] [] pos2) X.env) :: backTo pos (starEach [] X.env))) _ _ s
  refine Calls.spliced_cons (Call_ (ld_blt I hg2 hm2 PyProof.Rows.boot_zip (PyProof.Rows.callWith_type1 (thn (ha.run pos2 pins s σ H _ I h) fun us s1 ⟨vs, H1, I1, r1, q1⟩ => ?_) hs hpl)))
  obtain ⟨a, b, ks, us', ex, hq1, hq2, hl, q⟩ := q1
  subst ex
  cases r1 with
  | cons r rr =>
    cases rr with
    | cons r' rr =>
      cases rr
      cases r
      cases r'
      obtain ⟨t1, rv1, p1, hz1⟩ := I1.tuple hq1
      obtain ⟨t2, rv2, p2', _⟩ := I1.tuple hq2
      obtain ⟨o1, ho1, _⟩ := id p1
      obtain ⟨o2, ho2, _⟩ := id p2'
      have la : a < s1.heap.objs.size := Heap.lt_size ho1
      have lb : b < s1.heap.objs.size := Heap.lt_size ho2
      have e1 := rv1.length
      have e2' := rv2.length
      rw [List.length_map] at e1
      refine zip_begins2 (begins_tuple a t1.toArray) (begins_tuple b t2.toArray) p1 p2' fun h' hz hTI hTO h1 h2 hsz hk => ?_
      refine Calls.spliced_nil ?_
      have S := zip_sep2 (N := s1.heap.objs.size) (fp1 := [a]) (fp2 := [b]) (fun d hd => by rw [List.mem_singleton.mp hd]; exact la) (fun d hd => by rw [List.mem_singleton.mp hd]; exact lb)
      obtain ⟨rs, hrl, hkv, hrs⟩ := kv_zip rv1 rv2 hl
      have P := pairs_zipT (prog := X.prog) (w := X.w) (s1.heap.objs.size + 4) (s1.heap.objs.size + 2) (s1.heap.objs.size + 3) s1.heap.objs.size (s1.heap.objs.size + 1) a b S (Nat.ne_of_lt la) (Nat.ne_of_lt (Nat.lt_succ_of_lt lb))
        ⟨show (s1.heap.objs.size + 2 : Nat) ≠ s1.heap.objs.size by omega, show (s1.heap.objs.size + 2 : Nat) ≠ s1.heap.objs.size + 1 by omega⟩ t1.toArray t2.toArray (by simp; omega)
      refine PySem.call_dict_pairs (s := { s1 with heap := h' }) (knd := mixKind X.prog X.w) (kvs := rs) P (I1.ok.hd hc) ⟨hz, hTI, ⟨_, _, hTO⟩, ⟨⟨_, h1, rfl, rfl⟩, (show s1.heap.IsTuple a t1.toArray from p1).at fun o e => hk a o e⟩, ⟨⟨_, h2, rfl, rfl⟩, (show s1.heap.IsTuple b t2.toArray from p2').at fun o e => hk b o e⟩⟩
        ⟨by rw [hrl]; simp, fun i key v ⟨x1, x2⟩ => ?_⟩ (by rw [List.length_map] at hz1; simp; omega) fun h'' tk hd hkk => ?_
      · obtain ⟨y, g1, t, g2⟩ := hrs i key v (by simpa using x1) (by simpa using x2)
        subst g2
        exact ⟨.inr y, g1, kV_is (k := .inr y) ⟨t, rfl⟩⟩
      · have hlt : s1.heap.objs.size < h'.objs.size := by rw [hsz]; omega
        have hkeep : ∀ c o, s1.heap.get? c = some o → h''.get? c = some o := fun c o hc' => by
          have hclt : c < s1.heap.objs.size := Heap.lt_size hc'
          refine hkk c o (fun hm => ?_) (hk c o hc')
          simp only [List.mem_cons, List.not_mem_nil, or_false] at hm
          have up : ∀ m, c ≠ s1.heap.objs.size + m := fun m z => by
            rw [z] at hclt
            exact absurd hclt (Nat.not_lt.mpr (Nat.le_add_right _ _))
          rcases hm with z | z | z | z
          · exact up 4 z
          · exact up 3 z
          · exact up 0 z
          · exact up 1 z
        have hm' : (h'.objs.size == sysModules) = false := beq_eq_false_iff_ne.mpr (Nat.ne_of_gt (Nat.lt_trans I1.big hlt))
        have hfree : H1 h'.objs.size = none := I1.hok.fresh (Nat.le_of_lt hlt)
        have hlen : (mergeK [] ((ks.zip us').map fun p => ((.inr p.1 : Key), p.2))).length ≤ sizeLine := by
          refine Nat.le_trans (length_mergeK _ []) ?_
          rw [List.length_nil, Nat.zero_add, List.length_map, List.length_zip]
          rw [List.length_map] at hz1
          omega
        exact ⟨.ref h'.objs.size, upd H1 h'.objs.size (.dK (mergeK [] ((ks.zip us').map fun p => (.inr p.1, p.2)))), I1.laid (t' := tk) hkeep (Nat.le_of_lt hlt) (show ObjOk X.prog X.w _ _ _ (.dK _) from ⟨hlen, hm', merged [] rs, KV.merge hkv .nil, hd⟩), rfl, q _ hfree⟩
theorem kvok_merge {K : PySem.W.Frag} {H : Hp} {h : Ct} : ∀ {cells : List Str} {us : List V} {ks : List (Key × V)} {kvs : List (Str × T)}, ImAll K H us (cells.map h) → KvOk K H ks kvs →
    KvOk K H (mergeK ks ((cells.zip us).map fun p => ((.inr p.1 : Key), p.2))) (cells.foldl (fun d c => dPut d c (h c)) kvs)
  | [], us, ks, kvs, _, g => by
    unfold mergeK
    simpa using g
  | c :: cells, us, ks, kvs, m, g => by
    cases m with
    | @cons v vs _ _ hv hvs =>
      have := kvok_merge (cells := cells) hvs (g.put (k := c) hv)
      exact this
theorem y_dictZip {cells : List Str} {h : Ct} (nd : cells.Nodup) (hc : X.calm = true) (ha : Py X e ρ (.tup (cells.map T.str))) (hb : Py X e2 ρ (.tup (cells.map h))) (hm : X.mg "dict" = none) (hm2 : X.mg "zip" = none) (hg : Gl X "dict" := by rfl) (hg2 : Gl X "zip" := by rfl)
    (hs : starEach [e, e2] X.env = (false, eval e X.env) :: starEach [e2] X.env := by rfl) (hs2 : starEach [e2] X.env = (false, eval e2 X.env) :: starEach [] X.env := by rfl) (hpl : (backTo pos2 (starEach [e2] X.env)).any (·.1) = false := by rfl)
    (hs0 : starEach [.Call (.Name "zip" p2) [e, e2] [] pos2] X.env = (false, eval (.Call (.Name "zip" p2) [e, e2] [] pos2) X.env) :: starEach [] X.env := by rfl) (hpl0 : (backTo pos (starEach [] X.env)).any (·.1) = false := by rfl) :
    PyN X (.Call (.Name "dict" p) [.Call (.Name "zip" p2) [e, e2] [] pos2] [] pos) ρ (.d (kvsOf cells h)) := by
  rw [← put_all nd]
  refine PyG.of (pe_dz hc hg hm hg2 hm2 (pa_cons pe_g (pa_cons pe_g pa_nil hs2) hs) hs hpl hs0 hpl0) fun σ H C B st => g_use ha st fun x H1 s1 q1 => g_use hb (st.mono s1) fun y H2 s2 q2 => ?_
  obtain ⟨a, xs, rfl, hx, mx⟩ := Im.tup_eq q1
  obtain ⟨b, ys, rfl, hy, my⟩ := Im.tup_eq q2
  rw [mx.strs] at hx
  have hly := my.length
  rw [List.length_map] at hly
  refine ⟨a, b, cells, ys, rfl, same_t s2 hx, hy, hly, fun q hq => ?_⟩
  have sn : Same H2 (upd H2 q (.dK (mergeK [] ((cells.zip ys).map fun p => (.inr p.1, p.2))))) := same_new hq
  exact ⟨(s1.trans s2).trans sn, q, _, rfl, (s1.trans s2).free hq, upd_same, kvok_merge (my.mono sn) trivial⟩
end
end Nine
set_option maxHeartbeats 4000000
/-! K9R8: behind_word, end_from, first_state, walked. -/
namespace Nine
open PySem PySem.Spec PyProof.Rows L2
def stT (rw : Rw) (sp : Nat) (h : Ct) (pl : List Nat) : T := .tup [natT sp, cT rw.cells h, .tup (pl.map natT)]
/-- the state behind a word -/
def wordT (rw : Rw) (b : Bool) (sp : Nat) (h : Ct) (pl : List Nat) : T :=
  if b then stT rw (sp + 1) (stepF (mvAt rw sp) h) pl else stT rw (markL rw sp) (upC h (glAt rw sp) (spoT pl.length)) (pl ++ [sp])
def wd (b : Bool) : Str := if b then "do" else "lose"
section
variable {P : Program} {w : World} {K : PySem.W.Frag} {mg : Str → Option Value} {base : Heap}
def r_behind_word (as : List A4) (r : A4) : Prop := ∃ (rw : Rw) (b : Bool) (sp : Nat) (h : Ct) (pl : List Nat), rw.Ok ∧ sp < rw.mv.length ∧ pl.length ≤ 20 ∧ as = [.t rw.t, .t (stT rw sp h pl), .t (.str (wd b))] ∧ r = .t (wordT rw b sp h pl)
theorem wd_do {b : Bool} : decide (wd b = "do") = b := by cases b <;> rfl
theorem ok_behind_word (E : E9 K mg) {k : Nat} (G1 : Ok9 P w base k E.f_term_by_move r_term) (G2 : Ok9 P w base k E.f_mark_below_watch r_mark) : Ok9 P w base (k + 1) E.f_behind_word r_behind_word := ok9 sc_behind_word fun cdv A outer s H Ex as r hr hl h => by
  obtain ⟨rw, b, sp, h, pl, o, hsp, hpl, rfl, rfl⟩ := h
  have lc := o.lc
  have hm := mv_mem hsp
  have hg := (o.mv _ hm).gl
  refine ru_unt (ts := [natT sp, cT rw.cells h, .tup (pl.map natT)]) rfl (yv 1) (gs_cons (g_name 4 sc_behind_word.nd) (gs_cons (g_name 5 sc_behind_word.nd) (gs_cons (g_name 6 sc_behind_word.nd) gs_nil))) ?_
  refine ru_skip (Pt.eq (t_geN (x := sp) (y := rw.mv.length) (yv 4) (Py.eq (y_len (y_fd 2 (yv 0) E.c_MOVES) E.b_len) (by rw [List.length_map]; rfl))) (by rw [decide_eq_false_iff_not]; omega)) ?_
  refine ru_par2 7 8 (u := .t (mvAt rw sp).t) (w := .d (kvsOf rw.cells h)) rfl sc_behind_word.nd (by decide) (y_ixM (f := Mv.t) (y_fd 2 (yv 0) E.c_MOVES) (yv 4) (mv_at hsp)) (y_dictZip o.nd rfl (y_fd 0 (yv 0) E.c_CELLS) (yv 5) E.b_dict E.b_zip) ?_
  refine ru_dput 8 (t := if b then termF (mvAt rw sp) h else spoT pl.length) (u1 hr) rfl ?q1 (y_fd 2 (yv 7) E.c_CELL) ?_ (by unfold kvsOf; rw [List.length_map]; omega)
  case q1 =>
    refine y_if (k := b) (Pt.eq (t_eqS (yv 2) (y_gs E.c_DO)) wd_do) (fun hk => ?_) fun hk => ?_
    · rw [hk]
      exact y_callT (f := E.f_term_by_move) G1 hr (a_cons (yv 7) (a1 (yd 8))) ⟨rw, _, h, o, hm, rfl, rfl⟩
    · rw [hk]
      exact y_tup (b_cons (y_gs E.c_SPOILT_terms) (b_cons (Py.eq (y_len (yv 6) E.b_len) (by rw [List.length_map]; rfl)) b_nil))
  rw [dPut_kvs hg]
  refine ru_set 3 (y := .t (cT rw.cells (upC h (mvAt rw sp).gl (if b then termF (mvAt rw sp) h else spoT pl.length)))) sc_behind_word.nd (y_tupleL (PyN.arg ?q2) E.b_tuple) ?_
  case q2 =>
    exact y_lm (own := [("cell", 9)]) rw.cells T.str (upC h (mvAt rw sp).gl (if b then termF (mvAt rw sp) h else spoT pl.length)) [9] rfl sc_behind_word.nd ((i_tup (y_fd 0 (yv 0) E.c_CELLS)).c) (blkOk_by (N := n_behind_word) (sc := defScope s_behind_word) (by decide +kernel)) (by decide)
      fun c hc => ⟨_, fun s H C cl fp => ⟨g_name 9 sc_behind_word.nd, y_dget (u1 hr) (yd 8) (yv 9) (dGet_kvs hc)⟩⟩
  refine ru_ret (x := .t (wordT rw b sp h pl)) (y_if (k := b) (Pt.eq (t_eqS (yv 2) (y_gs E.c_DO)) wd_do) (fun hk => ?_) fun hk => ?_) rfl
  · subst hk
    exact y_tup (b_cons (y_addN (yv 4) (y_int (i := (1 : Nat)))) (b_cons (yv 3) (b_cons (yv 6) b_nil)))
  · subst hk
    refine y_tup (b_cons (y_callT (f := E.f_mark_below_watch) G2 hr (a_cons (yv 0) (a1 (yv 4))) ⟨rw, sp, o, rfl, rfl⟩) (b_cons (yv 3) (b_cons ?_ b_nil)))
    refine Py.eq (y_tup (b_star (yv 6) (b_cons (yv 4) b_nil)) ?_) ?_
    · rw [List.length_append, List.length_map, List.length_singleton]; omega
    · rw [List.map_append]; rfl
def r_end_from (as : List A4) (r : A4) : Prop := ∃ (rw : Rw) (sp : Nat) (h : Ct) (pl : List Nat), rw.Ok ∧ as = [.t rw.t, .t (stT rw sp h pl)] ∧ r = .t (.tup (rw.want.map (runR rw sp rw.mv.length h)))
theorem ok_end_from (E : E9 K mg) {k : Nat} (G1 : Ok9 P w base k E.f_held_behind_terms r_held) : Ok9 P w base (k + 1) E.f_end_from r_end_from := ok9 sc_end_from fun cdv A outer s H Ex as r hr hl h => by
  obtain ⟨rw, sp, h, pl, o, rfl, rfl⟩ := h
  refine ru_unt (ts := [natT sp, cT rw.cells h, .tup (pl.map natT)]) rfl (yv 1) (gs_cons (g_name 3 sc_end_from.nd) (gs_cons (g_name 4 sc_end_from.nd) (gs_cons (g_name 5 sc_end_from.nd) gs_nil))) ?_
  have e : (rw.mv.drop sp).foldl (fun h m => stepF m h) h = runR rw sp rw.mv.length h := by unfold runR; rw [List.take_length]
  refine ru_set 2 (y := .d (kvsOf rw.cells ((rw.mv.drop sp).foldl (fun h m => stepF m h) h))) sc_end_from.nd (y_call (f := E.f_held_behind_terms) G1 hr (a_cons (PyN.arg (y_dictZip o.nd rfl (y_fd 0 (yv 0) E.c_CELLS) (yv 4) E.b_dict E.b_zip)) (a1 (x := .t (.tup ((rw.mv.drop sp).map Mv.t))) ?_)) ⟨rw, rw.mv.drop sp, h, o, fun m hm => List.mem_of_mem_drop hm, rfl, rfl⟩) ?_
  · refine Py.eq (y_slT (i := some (sp : Int)) (j := none) (y_fd 2 (yv 0) E.c_MOVES) (.at (yv 3)) .no) ?_
    rw [cut_drop, List.map_drop]
  · rw [e]
    refine ru_ret (y_tupleL (PyN.arg ?q) E.b_tuple) rfl
    exact y_lm (own := [("cell", 6)]) rw.want T.str (runR rw sp rw.mv.length h) [6] rfl sc_end_from.nd ((i_tup (y_fd 1 (yv 0) E.c_WANTED)).c) (blkOk_by (N := n_end_from) (sc := defScope s_end_from) (by decide +kernel)) (by decide)
      fun c hc => ⟨_, fun s H C cl fp => ⟨g_name 6 sc_end_from.nd, y_dget (u1 hr) (yd 2) (yv 6) (dGet_kvs (want_sub o hc))⟩⟩
def r_first (as : List A4) (r : A4) : Prop := ∃ rw : Rw, rw.Ok ∧ as = [.t rw.t] ∧ r = .t (stT rw 0 oldT [])
theorem ok_first_state (E : E9 K mg) {k : Nat} (G1 : Ok9 P w base k E.f_contents_at r_contents) : Ok9 P w base (k + 1) E.f_first_state r_first := ok9 sc_first_state fun cdv A outer s H Ex as r hr hl h => by
  obtain ⟨rw, o, rfl, rfl⟩ := h
  refine ru_ret (x := .t (stT rw 0 oldT [])) (y_tup (b_cons y_int (b_cons ?_ (b_cons (y_tup b_nil) b_nil)))) rfl
  exact y_callT (f := E.f_contents_at) G1 hr (a_cons (yv 0) (a1 (x := .t (natT 0)) y_int)) ⟨rw, 0, o, Nat.zero_le _, rfl, by unfold runR; simp [cT]⟩
end
end Nine
set_option maxHeartbeats 4000000
/-! K9S: sorted(a list), by the data's own order. -/
namespace Nine
open PySem PySem.Spec PyProof.Rows L2
section
variable {α : Type} {lt : α → α → Bool} {f : α → T}
/-- a list without doubles, sorted: the set put in order -/
theorem srt_ord (L : Lin lt) (h : ∀ a b, W.dataLt (f a).d (f b).d = lt a b) {l : List α} (nd : l.Nodup) : l.mergeSort (W.dataLe false fun a => (f a).d) = ordU lt l := by
  have le_eq : ∀ a b, W.dataLe false (fun a => (f a).d) a b = !lt b a := fun a b => by rw [← h b a]; rfl
  have tr : ∀ a b c : α, W.dataLe false (fun a => (f a).d) a b = true → W.dataLe false (fun a => (f a).d) b c = true → W.dataLe false (fun a => (f a).d) a c = true := fun a b c h1 h2 => by
    rw [le_eq, Bool.not_eq_true'] at h1 h2 ⊢
    cases hc : lt c a with
    | false => rfl
    | true =>
      cases hab : lt a b with
      | true => rw [L.tr _ _ _ hc hab] at h2; cases h2
      | false =>
        rw [L.tri a b hab h1] at hc
        rw [hc] at h2
        cases h2
  have tot : ∀ a b : α, (W.dataLe false (fun a => (f a).d) a b || W.dataLe false (fun a => (f a).d) b a) = true := fun a b => by
    rw [le_eq, le_eq]
    cases hab : lt a b with
    | false => simp
    | true =>
      cases hba : lt b a with
      | false => simp
      | true =>
        have := L.tr _ _ _ hab hba
        rw [L.irr] at this
        cases this
  have srt := List.pairwise_mergeSort (le := W.dataLe false fun a => (f a).d) tr tot l
  have pm := List.mergeSort_perm l (W.dataLe false fun a => (f a).d)
  have nd2 : (l.mergeSort (W.dataLe false fun a => (f a).d)).Nodup := pm.nodup_iff.mpr nd
  refine (ordU_of L ?_ fun z => pm.mem_iff).symm
  refine (srt.and nd2).imp fun {a b} ⟨h1, h2⟩ => ?_
  rw [le_eq, Bool.not_eq_true'] at h1
  cases hab : lt a b with
  | true => rfl
  | false => exact absurd (L.tri a b hab h1) h2
end
theorem each_vals {K : PySem.W.Frag} {H : Hp} {α : Type} {f : α → T} : ∀ {out : List Value} {l : List α}, W.EachIs (fun v a => ∃ x, RelV x v ∧ Im K H x (f a)) out l → ∃ ys, Vals ys out ∧ ImAll K H ys (l.map f)
  | _, _, .nil => ⟨[], .nil, .nil⟩
  | _, _, .cons ⟨x, r, m⟩ t => by
    obtain ⟨ys, r2, m2⟩ := each_vals t
    exact ⟨x :: ys, .cons r r2, .cons m m2⟩
section
variable {X : Cx} {α : Type} {lt : α → α → Bool} {f : α → T}
theorem each_of {K : PySem.W.Frag} {H : Hp} : ∀ {its : List Value} {xs : List V} {l : List α}, Vals xs its → ImAll K H xs (l.map f) → W.EachIs (fun v a => ∃ x, RelV x v ∧ Im K H x (f a)) its l
  | _, _, [], r, m => by
    cases m
    cases r
    exact .nil
  | _, _, a :: l, r, m => by
    cases m with
    | cons m1 m2 =>
      cases r with
      | cons r1 r2 => exact .cons ⟨_, r1, m1⟩ (each_of r2 m2)
theorem each_mono {α β : Type} {R R' : α → β → Prop} (h : ∀ a b, R a b → R' a b) : ∀ {as : List α} {bs : List β}, W.EachIs R as bs → W.EachIs R' as bs
  | _, _, .nil => .nil
  | _, _, .cons a t => .cons (h _ _ a) (each_mono h t)
end
mutual
theorem im_dp {K : PySem.W.Frag} {H : Hp} : ∀ {t : T} {v : V}, Im K H v t → Dp K H v t.d
  | .non, _, h => by cases h; simp only [T.d]; exact .non
  | .bl b, _, h => by cases h; simp only [T.d]; exact .bl b
  | .int i, _, h => by cases h; simp only [T.d]; exact .int i
  | .str x, _, h => by cases h; simp only [T.d]; exact .str x
  | .tup ts, _, h => by
    cases h with
    | tup hs ha => simp only [T.d]; exact .tup hs (ims_dp ha)
  | .tuf xs, _, h => by
    cases h with
    | tuf hs hd =>
      simp only [T.d]
      have dp_strs : ∀ xs : List Str, DpAll K H (xs.map V.str) (xs.map PyData.str) := fun xs => by
        induction xs with
        | nil => exact .nil
        | cons x xs ih => exact .cons (.str x) ih
      exact .tup (.inl (.inr ⟨_, hs⟩)) (dp_strs xs)
  | .lst ts, _, h => by
    cases h with
    | lst hs ha => simp only [T.d]; exact .lst (.inl (.inr ⟨_, hs⟩)) (ims_dp ha)
theorem ims_dp {K : PySem.W.Frag} {H : Hp} : ∀ {ts : List T} {vs : List V}, ImAll K H vs ts → DpAll K H vs (T.ds ts)
  | [], _, h => by cases h; simp only [T.ds]; exact .nil
  | t :: ts, _, h => by
    cases h with
    | cons h1 h2 => simp only [T.ds]; exact .cons (im_dp h1) (ims_dp h2)
end
section
variable {X : Cx} {e : Expr} {ρ : List Sl} {pos p : Pos} {α : Type} {lt : α → α → Bool} {f : α → T}
def rSrt (K : PySem.W.Frag) (f : α → T) (l : List α) : List V → Hp → VK → Prop := fun vs H Q => ∃ (a : Addr) (xs : List V), vs = [.ref a] ∧ SqL K H a xs ∧ ImAll K H xs (l.map f) ∧
  ∀ p ys, H p = none → ImAll K H ys ((l.mergeSort (W.dataLe false fun a => (f a).d)).map f) → Q (.ref p) (upd H p (.lst ys))
theorem cr_srt {l : List α} (hu : X.A.units + 64 < cLine) (al : ∀ a b : α, W.alike (f a).d (f b).d = true) (so : W.Sortable (l.map fun a => (f a).d)) (dp : ∀ a, (f a).d.depth ≤ 60) : CallR X (.builtin "sorted") (rSrt X.K f l) := by
  intro pins s σ H vs us Q I r h
  obtain ⟨a, xs, rfl, hs, hm, q⟩ := h
  obtain ⟨its, rv, hl, hz⟩ := I.list hs
  rw [Vals.ref1 r]
  have e0 := each_of (f := f) rv hm
  have er : W.EachIs (fun v a => ∃ as, Reads s.heap v (f a).d as) its l := each_mono (fun v a ⟨x, r, m⟩ => Dp.reads I _ _ _ (im_dp m) r) e0
  have ln := rv.length
  have ln2 := hm.length
  rw [List.length_map] at ln2
  refine W.sorted_data (R := fun v a => ∃ x, RelV x v ∧ Im X.K H x (f a)) (enc := fun a => (f a).d) hl.isList e0 er (.of al) so (by omega) (fun b _ => by have := dp b; omega) fun out ho eo => ?_
  obtain ⟨ys, ry, my⟩ := each_vals eo
  obtain ⟨ep, he'⟩ := PyProof.Rows.sortedAll_at s.heap its out.toArray
  have hlen : ys.length ≤ sizeLine := by rw [ry.length, ho]; omega
  have hp := I.hok.fresh (a := s.heap.objs.size + 1) (Nat.le_succ _)
  exact ⟨.ref _, upd H (s.heap.objs.size + 1) (.lst ys), I.laid (t' := s.toks) (fun _ _ => PyProof.Rows.sortedAll_old) (Nat.le_succ _) ⟨hlen, out, ep, ry, he'⟩, rfl, q _ ys hp my⟩
/-- sorted(a list without doubles) -/
theorem y_srt {l : List α} (L : Lin lt) (hlt : ∀ a b, ltD (f a) (f b) = lt a b) (nd : l.Nodup) (hu : X.A.units + 64 < cLine) (al : ∀ a b : α, W.alike (f a).d (f b).d = true) (so : W.Sortable (l.map fun a => (f a).d)) (dp : ∀ a, (f a).d.depth ≤ 60)
    (h : PyS X e ρ (l.map f)) (hm : X.mg "sorted" = none) (hg : Gl X "sorted" := by rfl) (he : starEach [e] X.env = (false, eval e X.env) :: starEach [] X.env := by rfl) (hpl : (backTo pos (starEach [] X.env)).any (·.1) = false := by rfl) :
    PyL X (.Call (.Name "sorted" p) [e] [] pos) ρ ((ordU lt l).map f) :=
  y_bi (cr_srt (l := l) hu al so dp) hm (by decide +kernel) (a1 h he) (fun H vs H1 Q s1 q1 q => by
    obtain ⟨v, rfl, a, xs, rfl, hs, hm⟩ := args1 q1
    refine ⟨a, xs, rfl, hs, hm, fun p ys hp my => ?_⟩
    rw [srt_ord L hlt nd] at my
    have sn : Same H1 (upd H1 p (.lst ys)) := same_new hp
    exact q _ _ (s1.trans sn) ⟨p, ys, rfl, s1.free hp, upd_same, my.mono sn⟩) hg (by decide) (by decide) he hpl
theorem y_srtN {l : List Nat} (nd : l.Nodup) (hu : X.A.units + 64 < cLine) (h : PyS X e ρ (l.map natT)) (hm : X.mg "sorted" = none) (hg : Gl X "sorted" := by rfl) (he : starEach [e] X.env = (false, eval e X.env) :: starEach [] X.env := by rfl) (hpl : (backTo pos (starEach [] X.env)).any (·.1) = false := by rfl) :
    PyL X (.Call (.Name "sorted" p) [e] [] pos) ρ ((ordU ltN l).map natT) :=
  y_srt lin_nat ltD_nat nd hu (fun a b => by simp [natT, T.d, W.alike]) (.others fun b => ⟨by simp [natT, T.d], fun xs => by simp [natT, T.d]⟩) (fun a => by simp [natT, T.d, PyData.depth]) h hm hg he hpl
theorem y_srtS {l : List Str} (nd : l.Nodup) (hu : X.A.units + 64 < cLine) (h : PyS X e ρ (l.map T.str)) (hm : X.mg "sorted" = none) (hg : Gl X "sorted" := by rfl) (he : starEach [e] X.env = (false, eval e X.env) :: starEach [] X.env := by rfl) (hpl : (backTo pos (starEach [] X.env)).any (·.1) = false := by rfl) :
    PyL X (.Call (.Name "sorted" p) [e] [] pos) ρ ((ordU ltS l).map T.str) :=
  y_srt lin_str ltD_str nd hu (fun a b => by simp [T.d, W.alike]) (.others fun b => ⟨by simp [T.d], fun xs => by simp [T.d]⟩) (fun a => by simp [T.d, PyData.depth]) h hm hg he hpl
theorem y_srtH {l : List Hz} (nd : l.Nodup) (hu : X.A.units + 64 < cLine) (h : PyS X e ρ (l.map hzT)) (hm : X.mg "sorted" = none) (hg : Gl X "sorted" := by rfl) (he : starEach [e] X.env = (false, eval e X.env) :: starEach [] X.env := by rfl) (hpl : (backTo pos (starEach [] X.env)).any (·.1) = false := by rfl) :
    PyL X (.Call (.Name "sorted" p) [e] [] pos) ρ ((ordU ltH l).map hzT) :=
  y_srt lin_hz ltD_hz nd hu (fun a b => by simp [hzT, natT, T.d, T.ds, W.alike, W.alikeAll]) (.tuples fun b => ⟨.int (b.1 : Int), [.str b.2.1, .int (b.2.2 : Int)], by simp [hzT, natT, T.d, T.ds]⟩) (fun a => by simp [hzT, natT, T.d, T.ds, PyData.depth, PyData.depthAll]) h hm hg he hpl
end
end Nine
set_option maxHeartbeats 4000000
/-! K9L1: the law's own counting, hazards, END, walked. -/
namespace Nine
open PySem PySem.Spec PyProof.Rows L2
/-- the law's counting, from behind: what is needed, what counts -/
def lcStep (r : Rw) (st : List Str × List Nat) (n : Nat) : List Str × List Nat :=
  if glAt r n ∈ st.1 then ((st.1.filter fun c => !decide (c = glAt r n)) ++ rdAt r n, st.2 ++ [n]) else st
def lcRun (r : Rw) : List Str × List Nat := ((List.range r.mv.length).reverse).foldl (lcStep r) (r.want, [])
def lcL (r : Rw) : List Nat := ordU ltN (lcRun r).2
theorem lc_mem {r : Rw} : ∀ (l : List Nat) (st : List Str × List Nat), ∀ x ∈ (l.foldl (lcStep r) st).2, x ∈ st.2 ∨ x ∈ l
  | [], st, x, h => .inl h
  | n :: l, st, x, h => by
    rw [List.foldl_cons] at h
    rcases lc_mem l _ x h with h | h
    · unfold lcStep at h
      split at h
      · rcases List.mem_append.mp h with h | h
        · exact .inl h
        · rw [List.mem_singleton.mp h]; exact .inr List.mem_cons_self
      · exact .inl h
    · exact .inr (List.mem_cons_of_mem _ h)
theorem lc_nodup {r : Rw} : ∀ (l : List Nat) (st : List Str × List Nat), l.Nodup → st.2.Nodup → (∀ x ∈ l, x ∉ st.2) → ((l.foldl (lcStep r) st).2).Nodup
  | [], st, _, h, _ => h
  | n :: l, st, nd, h, hd => by
    rw [List.foldl_cons]
    obtain ⟨n1, n2⟩ := List.nodup_cons.mp nd
    refine lc_nodup l _ n2 ?_ fun x hx => ?_
    · unfold lcStep
      split
      · exact List.nodup_append.mpr ⟨h, by simp, fun a ha b hb => by rw [List.mem_singleton.mp hb]; intro z; subst z; exact hd _ List.mem_cons_self ha⟩
      · exact h
    · unfold lcStep
      have h1 := hd x (List.mem_cons_of_mem _ hx)
      split
      · rw [List.mem_append, List.mem_singleton]
        rintro (z | z)
        · exact h1 z
        · subst z; exact n1 hx
      · exact h1
theorem range_rev_nodup {n : Nat} : ((List.range n).reverse).Nodup := by
  have : (List.range n).Nodup := List.nodup_range
  exact (List.reverse_perm _).nodup_iff.mpr this
theorem lc_len {r : Rw} (o : r.Ok) : ∀ (l : List Nat) (st : List Str × List Nat), (∀ n ∈ l, n < r.mv.length) → (l.foldl (lcStep r) st).1.length ≤ st.1.length + 3 * l.length ∧ (l.foldl (lcStep r) st).2.length ≤ st.2.length + l.length
  | [], st, _ => by simp
  | n :: l, st, h => by
    rw [List.foldl_cons]
    obtain ⟨h1, h2⟩ := lc_len o l (lcStep r st n) fun m hm => h m (List.mem_cons_of_mem _ hm)
    have h3 := (o.mv _ (mv_mem (h n List.mem_cons_self))).lo
    have h4 : (lcStep r st n).1.length ≤ st.1.length + 3 ∧ (lcStep r st n).2.length ≤ st.2.length + 1 := by
      unfold lcStep
      split
      · have := List.length_filter_le (fun c => !decide (c = glAt r n)) st.1
        simp only [List.length_append, List.length_singleton]
        unfold rdAt
        omega
      · omega
    rw [List.length_cons]
    omega
theorem want_len {r : Rw} (o : r.Ok) : r.want.length ≤ 6 := by
  rw [o.wc]
  exact Nat.le_trans (List.length_filter_le _ _) o.lc
section
variable {P : Program} {w : World} {K : PySem.W.Frag} {mg : Str → Option Value} {base : Heap}
def r_l_counting (as : List A4) (r : A4) : Prop := ∃ rw : Rw, rw.Ok ∧ as = [.t rw.tf] ∧ r = .s ((lcL rw).map natT)
theorem ok_l_counting (E : E9 K mg) {k : Nat} : Ok9 P w base (k + 1) E.f_l_counting r_l_counting := ok9 sc_l_counting fun cdv A outer s H Ex as r hr hl h => by
  obtain ⟨rw, o, rfl, rfl⟩ := h
  have hlm := o.lm
  have hwl := want_len o
  -- line 0, k 1, need 2, found 3, name 4, reads 5, goal 6, own 7
  refine ru_par 2 3 (u := .s (rw.want.map T.str)) (w := .s []) rfl sc_l_counting.nd (by decide) (y_listT (y_fc 1 (yv 0)) E.b_list) (y_lst b_nil) ?_
  refine ru_fold ((List.range rw.mv.length).reverse) natT (lcStep rw) (rw.want, []) (fun st => [.val rw.tf, .no, .own (st.1.map T.str), .own (st.2.map natT), .no, .no, .no, .no]) rfl rfl ?q (fun i n st hn hst => ⟨_, _, g_name 1 sc_l_counting.nd, ?_⟩) (fun _ => rfl) ?_
  case q =>
    refine i_rngR (n := rw.mv.length) ?_ (y_neg y_int) (y_neg y_int) (by omega) E.b_range
    exact Py.eq (y_sub (y_len (y_fc 2 (yv 0)) E.b_len) y_int) (by rw [List.length_map])
  · have hn' : n < rw.mv.length := by
      have := List.mem_of_getElem? hn
      rw [List.mem_reverse] at this
      exact List.mem_range.mp this
    have hlen := lc_len o (((List.range rw.mv.length).reverse).take i) (rw.want, []) fun m hm => by
      have := List.mem_of_mem_take hm
      rw [List.mem_reverse] at this
      exact List.mem_range.mp this
    rw [← hst] at hlen
    dsimp only at hlen
    have h2 : (((List.range rw.mv.length).reverse).take i).length ≤ 10 := by rw [List.length_take, List.length_reverse, List.length_range]; omega
    have h3 := (o.mv _ (mv_mem hn')).lo
    refine ru_unt (ts := [.str (mvAt rw n).nm, .tup ((mvAt rw n).rd.map T.str), .str (mvAt rw n).gl]) rfl (y_ixM (f := Mv.t) (y_fc 2 (yv 0)) (yv 1) (mv_at hn')) (gs_cons (g_name 4 sc_l_counting.nd) (gs_cons (g_name 5 sc_l_counting.nd) (gs_cons (g_name 6 sc_l_counting.nd) gs_nil))) ?_
    refine ru_if (k := decide (glAt rw n ∈ st.1)) (t_inSL (yv 6) (yl 2)) (fun hk => ?_) fun hk => ?_
    · refine ru_set 2 (y := .s (((st.1.filter fun c => !decide (c = glAt rw n)) ++ rdAt rw n).map T.str)) sc_l_counting.nd ?q2 (ru_append 3 rfl (yv 1) (ru_end (ru_forget 1 (ru_forget 4 (ru_forget 5 (ru_forget 6 (ru_end ?_)))))) ?_)
      case q2 =>
        refine PyL.eq (y_catL (ts := (st.1.filter fun c => !decide (c = glAt rw n)).map T.str) (us := (rdAt rw n).map T.str) (PyN.o ?_) (PyN.o (y_listT (yv 5) E.b_list)) ?_) (by rw [List.map_append])
        · exact y_lc (own := [("_law_own", 7)]) st.1 T.str (fun c => !decide (c = glAt rw n)) T.str [7] rfl sc_l_counting.nd (i_lst (yl 2)) (blkOk_by (N := n_l_counting) (sc := defScope s_l_counting) (by decide +kernel)) (by decide)
            fun c hc => ⟨_, fun s H C cl fp => ⟨⟨g_name 7 sc_l_counting.nd, ts_one (t_neS (yv 7) (yv 6))⟩, fun _ => yv 7⟩⟩
        · have h5 := List.length_filter_le (fun c => !decide (c = glAt rw n)) st.1
          simp only [List.length_map]
          unfold rdAt
          omega
      · show _ = [_, _, Sl.own ((lcStep rw st n).1.map T.str), Sl.own ((lcStep rw st n).2.map natT), _, _, _, _]
        unfold lcStep
        rw [if_pos (of_decide_eq_true hk)]
        simp only [List.map_append]
        rfl
      · rw [List.length_map]; simp only [List.length_nil] at hlen; omega
    · refine ru_end (ru_forget 1 (ru_forget 4 (ru_forget 5 (ru_forget 6 (ru_end ?_)))))
      show _ = [_, _, Sl.own ((lcStep rw st n).1.map T.str), Sl.own ((lcStep rw st n).2.map natT), _, _, _, _]
      unfold lcStep
      rw [if_neg (of_decide_eq_false hk)]
      rfl
  · exact ru_ret (y_srtN (lc_nodup ((List.range rw.mv.length).reverse) (rw.want, []) range_rev_nodup List.nodup_nil fun _ _ => List.not_mem_nil) hr.units (yl 3) E.b_sorted) rfl
/-! ### the law's hazards -/
end
def lrdL (r : Rw) (lo k : Nat) : List Str := if k ∈ lcL r then (rdAt r k).filter fun c => !decide (c ∈ (List.range' lo (k - lo)).map (glAt r)) else []
def lhC (r : Rw) (k hi : Nat) (f : List Hz) (c : Str) : List Hz := f ++ ((List.range' k (hi - k)).filter fun j => decide (glAt r j = c)).map fun j => (k, c, j)
def lhK (r : Rw) (lo hi : Nat) (f : List Hz) (k : Nat) : List Hz := (lrdL r lo k).foldl (lhC r k hi) f
def lhP (r : Rw) (f : List Hz) (p : Nat) : List Hz :=
  (List.range' ((spotsL r).getD p 0) ((spotsL r).getD (p + 1) 0 - (spotsL r).getD p 0)).foldl (lhK r ((spotsL r).getD p 0) ((spotsL r).getD (p + 1) 0)) f
def lhRaw (r : Rw) : List Hz := (List.range ((spotsL r).length - 1)).foldl (lhP r) []
theorem lhC_len {r : Rw} {k hi : Nat} (hh : hi ≤ 10) : ∀ (l : List Str) (f : List Hz), (l.foldl (lhC r k hi) f).length ≤ f.length + 10 * l.length
  | [], f => by simp
  | c :: l, f => by
    rw [List.foldl_cons]
    have h1 := lhC_len hh l (lhC r k hi f c) (r := r) (k := k)
    have h2 : (lhC r k hi f c).length ≤ f.length + 10 := by
      unfold lhC
      rw [List.length_append, List.length_map]
      have := List.length_filter_le (fun j => decide (glAt r j = c)) (List.range' k (hi - k))
      rw [List.length_range'] at this
      omega
    rw [List.length_cons]
    omega
theorem lrdL_len {r : Rw} (o : r.Ok) {lo k : Nat} (hk : k < r.mv.length) : (lrdL r lo k).length ≤ 3 := by
  have h3 := (o.mv _ (mv_mem hk)).lo
  unfold lrdL
  split
  · exact Nat.le_trans (List.length_filter_le _ _) (Nat.le_trans h3 (by omega))
  · simp
theorem lhK_len {r : Rw} (o : r.Ok) {lo hi : Nat} (hh : hi ≤ 10) : ∀ (l : List Nat) (f : List Hz), (∀ n ∈ l, n < r.mv.length) → (l.foldl (lhK r lo hi) f).length ≤ f.length + 30 * l.length
  | [], f, _ => by simp
  | k :: l, f, h => by
    rw [List.foldl_cons]
    have h1 := lhK_len o hh l (lhK r lo hi f k) (lo := lo) fun m hm => h m (List.mem_cons_of_mem _ hm)
    have h2 := lhC_len (r := r) (k := k) hh (lrdL r lo k) f
    have h3 := lrdL_len o (lo := lo) (h k List.mem_cons_self)
    unfold lhK at h1 ⊢
    rw [List.length_cons]
    omega
theorem spots_at {r : Rw} (o : r.Ok) {p : Nat} (hp : p < (spotsL r).length - 1) : (spotsL r)[p]? = some ((spotsL r).getD p 0) ∧ (spotsL r)[p + 1]? = some ((spotsL r).getD (p + 1) 0) ∧ (spotsL r).getD p 0 ≤ (spotsL r).getD (p + 1) 0 ∧ (spotsL r).getD (p + 1) 0 ≤ r.mv.length := by
  have hs := stretch_ok o (s := ((spotsL r).getD p 0, (spotsL r).getD (p + 1) 0)) (List.mem_map.mpr ⟨p, List.mem_range.mpr hp, rfl⟩)
  refine ⟨?_, ?_, hs.1, hs.2⟩
  · rw [List.getD_eq_getElem?_getD]; simp [show p < (spotsL r).length by omega]
  · rw [List.getD_eq_getElem?_getD]; simp [show p + 1 < (spotsL r).length by omega]
theorem lhP_len {r : Rw} (o : r.Ok) : ∀ (l : List Nat) (f : List Hz), (∀ p ∈ l, p < (spotsL r).length - 1) → (l.foldl (lhP r) f).length ≤ f.length + 300 * l.length
  | [], f, _ => by simp
  | p :: l, f, h => by
    rw [List.foldl_cons]
    have hlm := o.lm
    obtain ⟨_, _, h1, h2⟩ := spots_at o (h p List.mem_cons_self)
    have h3 := lhP_len o l (lhP r f p) fun m hm => h m (List.mem_cons_of_mem _ hm)
    have h4 := lhK_len o (lo := (spotsL r).getD p 0) (hi := (spotsL r).getD (p + 1) 0) (by omega) (List.range' ((spotsL r).getD p 0) ((spotsL r).getD (p + 1) 0 - (spotsL r).getD p 0)) f fun n hn => by have := List.mem_range'_1.mp hn; omega
    rw [List.length_range'] at h4
    unfold lhP at h3 ⊢
    rw [List.length_cons]
    omega
section
variable {P : Program} {w : World} {K : PySem.W.Frag} {mg : Str → Option Value} {base : Heap}
def r_l_hazards (as : List A4) (r : A4) : Prop := ∃ rw : Rw, rw.Ok ∧ (lhRaw rw).Nodup ∧ as = [.t rw.tf] ∧ r = .t (.tup ((ordU ltH (lhRaw rw)).map hzT))
theorem ok_l_hazards (E : E9 K mg) {k : Nat} (G1 : Ok9 P w base k E.f_l_counting r_l_counting) : Ok9 P w base (k + 1) E.f_l_hazards r_l_hazards := ok9 sc_l_hazards fun cdv A outer s H Ex as r hr hl h => by
  obtain ⟨rw, o, nd, rfl, rfl⟩ := h
  have hlm := o.lm
  have hsl := spots_len o
  -- line 0, spots 1, place 2, found 3, fine 4, k 5, gone 6, reads 7, own 8, j 9
  refine ru_set 1 (y := .s ((spotsL rw).map natT)) sc_l_hazards.nd ?q0 ?_
  case q0 =>
    refine PyL.eq (y_catL (PyN.o (y_catL (PyN.o (y_lst (b_cons y_int b_nil))) (PyN.o (y_listT (y_fc 3 (yv 0)) E.b_list)) ?_)) (PyN.o (y_lst (b_cons (y_len (y_fc 2 (yv 0)) E.b_len) b_nil))) ?_) ?_
    · have := asc_len o.asc (n := rw.mv.length) fun x hx => (o.mb x hx).2
      simp
      omega
    · have := asc_len o.asc (n := rw.mv.length) fun x hx => (o.mb x hx).2
      simp
      omega
    · unfold spotsL
      simp [natT]
  refine ru_par 3 4 (u := .s []) (w := .s ((lcL rw).map natT)) rfl sc_l_hazards.nd (by decide) (y_lst b_nil) (y_call (f := E.f_l_counting) G1 hr (a1 (yv 0)) ⟨rw, o, rfl, rfl⟩) ?_
  refine ru_fold (List.range ((spotsL rw).length - 1)) natT (lhP rw) [] (fun f => [.val rw.tf, .own ((spotsL rw).map natT), .no, .own (f.map hzT), .own ((lcL rw).map natT), .no, .no, .no, .no, .no]) rfl rfl
    (i_rng (n := (spotsL rw).length - 1) (Py.eq (y_sub (y_lenL (yl 1) E.b_len) y_int) ?q) (by omega) E.b_range) (fun i p f hp hf => ⟨_, _, g_name 2 sc_l_hazards.nd, ?_⟩) (fun _ => rfl) ?_
  case q =>
    have h2 : 2 ≤ (spotsL rw).length := by unfold spotsL; simp
    unfold natT; rw [List.length_map]; congr 1; omega
  · have hp' : p < (spotsL rw).length - 1 := List.mem_range.mp (List.mem_of_getElem? hp)
    obtain ⟨e1, e2, h1, h2⟩ := spots_at o hp'
    generalize elo : (spotsL rw).getD p 0 = lo at e1 e2 h1 h2
    generalize ehi : (spotsL rw).getD (p + 1) 0 = hi at e1 e2 h1 h2
    have hfl : f.length ≤ 3000 := by
      have := lhP_len o ((List.range ((spotsL rw).length - 1)).take i) [] fun m hm => List.mem_range.mp (List.mem_of_mem_take hm)
      rw [← hf] at this
      have h3 : ((List.range ((spotsL rw).length - 1)).take i).length ≤ 10 := by rw [List.length_take, List.length_range]; omega
      simp only [List.length_nil] at this
      omega
    refine ru_fold (List.range' lo (hi - lo)) natT (lhK rw lo hi) f (fun f => [.val rw.tf, .own ((spotsL rw).map natT), .val (natT p), .own (f.map hzT), .own ((lcL rw).map natT), .no, .no, .no, .no, .no]) rfl rfl
      (i_rngN (x := lo) (y := hi) (y_ixL (yl 1) (yv 2) (at_map e1)) (y_ixL (yl 1) (y_addN (yv 2) (y_int (i := (1 : Nat)))) (at_map e2)) (by omega) (by omega) E.b_range) (fun j k2 g hk hg => ⟨_, _, g_name 5 sc_l_hazards.nd, ?_⟩) (fun _ => rfl) (ru_forget 2 (ru_end ?_))
    · have hk2 := List.mem_range'_1.mp (List.mem_of_getElem? hk)
      have hkl : k2 < rw.mv.length := by omega
      have hgl : g.length ≤ 3400 := by
        have := lhK_len o (lo := lo) (hi := hi) (by omega) ((List.range' lo (hi - lo)).take j) f fun m hm => by have := List.mem_range'_1.mp (List.mem_of_mem_take hm); omega
        rw [← hg] at this
        have h3 : ((List.range' lo (hi - lo)).take j).length ≤ 10 := by rw [List.length_take, List.length_range']; omega
        omega
      refine ru_set 6 (y := .s (((List.range' lo (k2 - lo)).map (glAt rw)).map T.str)) sc_l_hazards.nd ?q1 ?_
      case q1 =>
        refine PyL.eq (y_lm (own := [("_law_j", 9)]) (List.range' lo (k2 - lo)) natT (fun m => .str (glAt rw m)) [9] rfl sc_l_hazards.nd ((i_rngN (x := lo) (y := k2) (y_ixL (yl 1) (yv 2) (at_map e1)) (yv 5) (by omega) (by omega) E.b_range).c) (blkOk_by (N := n_l_hazards) (sc := defScope s_l_hazards) (by decide +kernel)) (by decide)
          fun m hm => ⟨_, fun s H C cl fp => ⟨g_name 9 sc_l_hazards.nd, y_fc 2 (y_ixM (f := Mv.t) (y_fc 2 (yv 0)) (yv 9) (mv_at (by have := List.mem_range'_1.mp hm; omega)))⟩⟩) ?_
        rw [List.map_map]
        rfl
      refine ru_set 7 (y := .s ((lrdL rw lo k2).map T.str)) sc_l_hazards.nd ?q2 ?_
      case q2 =>
        refine y_ifL (k := decide (k2 ∈ lcL rw)) (t_inNL (yv 5) (yl 4)) (fun hk => ?_) fun hk => ?_
        · unfold lrdL
          rw [if_pos (of_decide_eq_true hk)]
          exact y_lc (own := [("_law_own", 8)]) (rdAt rw k2) T.str (fun c => !decide (c ∈ (List.range' lo (k2 - lo)).map (glAt rw))) T.str [8] rfl sc_l_hazards.nd ((i_tup (y_fc 1 (y_ixM (f := Mv.t) (y_fc 2 (yv 0)) (yv 5) (mv_at hkl)))).c) (blkOk_by (N := n_l_hazards) (sc := defScope s_l_hazards) (by decide +kernel)) (by decide)
            fun c hc => ⟨_, fun s H C cl fp => ⟨⟨g_name 8 sc_l_hazards.nd, ts_one (t_niSL (yv 8) (yl 6))⟩, fun _ => yv 8⟩⟩
        · unfold lrdL
          rw [if_neg (of_decide_eq_false hk)]
          exact y_lst b_nil
      refine ru_foldOwn 7 (lrdL rw lo k2) T.str (lhC rw k2 hi) g (fun g s7 => [.val rw.tf, .own ((spotsL rw).map natT), .val (natT p), .own (g.map hzT), .own ((lcL rw).map natT), .val (natT k2), .own (((List.range' lo (k2 - lo)).map (glAt rw)).map T.str), s7, .no, .no]) rfl rfl rfl (fun j2 c g2 hc hg2 => ⟨_, _, g_name 8 sc_l_hazards.nd, ?_⟩) (fun _ => rfl) (fun _ _ => rfl) (ru_forget 5 (ru_forget 6 (ru_end ?_)))
      · have hg2l : g2.length ≤ 3500 := by
          have := lhC_len (r := rw) (k := k2) (hi := hi) (by omega) ((lrdL rw lo k2).take j2) g
          rw [← hg2] at this
          have h3 : ((lrdL rw lo k2).take j2).length ≤ 3 := by rw [List.length_take]; have := lrdL_len o (lo := lo) hkl; omega
          omega
        refine ru_set 3 (y := .s ((lhC rw k2 hi g2 c).map hzT)) sc_l_hazards.nd ?q3 (ru_forget 8 (ru_end rfl))
        refine PyL.eq (y_catL (ts := g2.map hzT) (us := (((List.range' k2 (hi - k2)).filter fun j => decide (glAt rw j = c)).map fun j => (k2, c, j)).map hzT) (yo 3) (PyN.o ?_) ?_) (by unfold lhC; rw [List.map_append])
        · refine PyL.eq (y_lc (own := [("_law_j", 9)]) (List.range' k2 (hi - k2)) natT (fun j => decide (glAt rw j = c)) (fun j => hzT (k2, c, j)) [9] rfl sc_l_hazards.nd ((i_rngN (x := k2) (y := hi) (yv 5) (y_ixL (yl 1) (y_addN (yv 2) (y_int (i := (1 : Nat)))) (at_map e2)) (by omega) (by omega) E.b_range).c) (blkOk_by (N := n_l_hazards) (sc := defScope s_l_hazards) (by decide +kernel)) (by decide)
            fun m hm => ⟨_, fun s H C cl fp => ⟨⟨g_name 9 sc_l_hazards.nd, ts_one (t_eqS (y_fc 2 (y_ixM (f := Mv.t) (y_fc 2 (yv 0)) (yv 9) (mv_at (by have := List.mem_range'_1.mp hm; omega)))) (yv 8))⟩, fun _ => y_tup (b_cons (yv 5) (b_cons (yv 8) (b_cons (yv 9) b_nil)))⟩⟩) ?_
          rw [List.map_map]
          rfl
        · have h5 := List.length_filter_le (fun j => decide (glAt rw j = c)) (List.range' k2 (hi - k2))
          rw [List.length_range'] at h5
          simp only [List.length_map]
          omega
      · rfl
    · show _ = [_, _, _, Sl.own ((lhP rw f p).map hzT), _, _, _, _, _, _]
      unfold lhP
      rw [elo, ehi]
      rfl
  · exact ru_ret (y_tupleL (PyN.arg (y_srtH nd hr.units (yl 3) E.b_sorted)) E.b_tuple) rfl
end
end Nine
set_option maxHeartbeats 4000000
/-! K9L2: the law's END, walked. -/
namespace Nine
open PySem PySem.Spec PyProof.Rows L2
section
variable {X : Cx} {e : Expr} {ρ : List Sl} {pos p : Pos}
/-- dict(a list of pairs of a text and a value) -/
theorem pairs_at {K : PySem.W.Frag} {H : Hp} {h : Ct} : ∀ {cells : List Str} {xs : List V}, ImAll K H xs (cells.map fun c => T.tup [.str c, h c]) →
    ∃ ps : List Addr, ∃ us : List V, xs = ps.map V.ref ∧ us.length = cells.length ∧ Paired (fun p (kv : Key × V) => SqT K H p [kV kv.1, kv.2]) ps ((cells.zip us).map fun q => ((.inr q.1 : Key), q.2)) ∧ ImAll K H us (cells.map h)
  | [], xs, m => by
    cases m
    exact ⟨[], [], rfl, rfl, .nil, .nil⟩
  | c :: cells, xs, m => by
    cases m with
    | cons m1 m2 =>
      obtain ⟨a, ys, rfl, hs, ha⟩ := m1.tup_eq
      cases ha with
      | cons h1 h2 =>
        cases h2 with
        | @cons u _ _ _ h2 h3 =>
          cases h3
          obtain ⟨ps, us, e, hl, hp, hu⟩ := pairs_at m2
          refine ⟨a :: ps, u :: us, by rw [e]; rfl, by simp [hl], .cons ?_ hp, .cons h2 hu⟩
          rw [h1.str_eq] at hs
          exact hs
theorem y_dictP {cells : List Str} {h : Ct} (nd : cells.Nodup) (hc : X.calm = true) (ha : PyS X e ρ (cells.map fun c => T.tup [.str c, h c])) (hm : X.mg "dict" = none) (hg : Gl X "dict" := by rfl)
    (he : starEach [e] X.env = (false, eval e X.env) :: starEach [] X.env := by rfl) (hpl : (backTo pos (starEach [] X.env)).any (·.1) = false := by rfl) : PyN X (.Call (.Name "dict" p) [e] [] pos) ρ (.d (kvsOf cells h)) := by
  rw [← put_all nd]
  exact y_bt (call_dictP hc) hm (by decide +kernel) (a1 ha he) (fun H vs H1 Q s1 q1 q => by
    obtain ⟨v, rfl, a, xs, rfl, hs, hm⟩ := args1 q1
    obtain ⟨ps, us, e, hl, hp, hu⟩ := pairs_at hm
    subst e
    refine ⟨a, ps, _, rfl, hs, hp, fun r hr => ?_⟩
    have sn : Same H1 (upd H1 r (.dK (mergeK [] ((cells.zip us).map fun p => (.inr p.1, p.2))))) := same_new hr
    exact q _ _ (s1.trans sn) ⟨r, _, rfl, s1.free hr, upd_same, kvok_merge (hu.mono sn) trivial⟩) hg (by decide) (by decide) he hpl
end
/-- the law's END: a loss at place p, then from the mark below -/
def leSt (r : Rw) (p : Option Nat) (st : Ct × Nat) (i : Nat) : Ct × Nat :=
  if i < p.toList.length then (upC (runR r st.2 (p.getD 0) st.1) (glAt r (p.getD 0)) (spoT i), markL r (p.getD 0)) else (runR r st.2 r.mv.length st.1, st.2)
theorem le_end {r : Rw} {p : Option Nat} (hp : ∀ k, p = some k → k < r.mv.length) : ((List.range (p.toList.length + 1)).foldl (leSt r p) (oldT, 0)).1 = endC r p := by
  cases p with
  | none => rfl
  | some k => rfl
section
variable {P : Program} {w : World} {K : PySem.W.Frag} {mg : Str → Option Value} {base : Heap}
theorem run_snoc {r : Rw} {lo hi : Nat} {h : Ct} : runR r lo hi h = ((r.mv.take hi).drop lo).foldl (fun h m => stepF m h) h := rfl
def r_l_end (as : List A4) (r : A4) : Prop := ∃ (rw : Rw) (p : Option Nat), rw.Ok ∧ (∀ k, p = some k → k < rw.mv.length) ∧ as = [.t rw.tf, .t (pT p)] ∧ r = .t (.tup (endL rw p))
theorem ok_l_end (E : E9 K mg) {k : Nat} : Ok9 P w base (k + 1) E.f_l_end r_l_end := ok9 sc_l_end fun cdv A outer s H Ex as r hr hl h => by
  obtain ⟨rw, p, o, hp, rfl, rfl⟩ := h
  have hlm := o.lm
  have lc := o.lc
  have hpl : p.toList.length ≤ 1 := by cases p <;> simp
  -- line 0, play 1, marks 2, place 3, held 4, spot 5, last 6, k 7, terms 8, name 9, reads 10, goal 11, own 12
  refine ru_par2 4 5 (u := .d (kvsOf rw.cells oldT)) (w := .t (natT 0)) rfl sc_l_end.nd (by decide) (y_dictP o.nd rfl (PyN.arg ?q) E.b_dict) y_int ?_
  case q =>
    exact y_lm (own := [("_law_own", 12)]) rw.cells T.str (fun c => T.tup [.str c, oldT c]) [12] rfl sc_l_end.nd ((i_tup (y_fc 0 (yv 0)).low).c) (blkOk_by (N := n_l_end) (sc := defScope s_l_end) (by decide +kernel)) (by decide)
      fun c hc => ⟨_, fun s H C cl fp => ⟨g_name 12 sc_l_end.nd, y_tup (b_cons (yv 12) (b_cons (y_tup (b_cons y_str (b_cons (yv 12) b_nil))) b_nil))⟩⟩
  refine ru_set 2 (y := .s ((spotsL rw).map natT)) sc_l_end.nd ?q0 ?_
  case q0 =>
    refine PyL.eq (y_catL (PyN.o (y_catL (PyN.o (y_lst (b_cons y_int b_nil))) (PyN.o (y_listT (y_fc 3 (yv 0)) E.b_list)) ?_)) (PyN.o (y_lst (b_cons (y_len (y_fc 2 (yv 0)) E.b_len) b_nil))) ?_) ?_
    · have := asc_len o.asc (n := rw.mv.length) fun x hx => (o.mb x hx).2
      simp
      omega
    · have := asc_len o.asc (n := rw.mv.length) fun x hx => (o.mb x hx).2
      simp
      omega
    · unfold spotsL
      simp [natT]
  refine ru_fold (List.range (p.toList.length + 1)) natT (leSt rw p) (oldT, 0) (fun st => [.val rw.tf, .val (pT p), .own ((spotsL rw).map natT), .no, .dic (kvsOf rw.cells st.1), .val (natT st.2), .no, .no, .no, .no, .no, .no, .no]) rfl rfl
    (i_rng (n := p.toList.length + 1) (y_addN (Py.eq (y_len (yv 1) E.b_len) (by rw [List.length_map]; rfl)) (y_int (i := (1 : Nat)))) (by omega) E.b_range) (fun i pl st hpl' hst => ⟨_, _, g_name 3 sc_l_end.nd, ?_⟩) (fun _ => rfl) ?_
  · have hpi : pl < p.toList.length + 1 := List.mem_range.mp (List.mem_of_getElem? hpl')
    have hs2 : st.2 ≤ 10 := by
      cases p with
      | none =>
        have : i = 0 := by
          cases i with
          | zero => rfl
          | succ i => simp at hpl'
        subst this
        rw [hst]; exact Nat.zero_le _
      | some q =>
        have hq := hp q rfl
        have : i = 0 ∨ i = 1 := by
          cases i with
          | zero => exact .inl rfl
          | succ i =>
            cases i with
            | zero => exact .inr rfl
            | succ i => simp at hpl'
        rcases this with rfl | rfl
        · rw [hst]; exact Nat.zero_le _
        · rw [hst]
          have := mark_le (r := rw) (k := q)
          show markL rw q ≤ 10
          omega
    have hlast : ∃ last : Nat, last ≤ rw.mv.length ∧ last = (if pl < p.toList.length then p.getD 0 else rw.mv.length) := by
      refine ⟨_, ?_, rfl⟩
      split
      · cases p with
        | none => rename_i hh; simp at hh
        | some q => exact Nat.le_of_lt (hp q rfl)
      · exact Nat.le_refl _
    obtain ⟨last, hll, elast⟩ := hlast
    refine ru_set 6 (y := .t (natT last)) sc_l_end.nd ?q1 ?_
    case q1 =>
      refine y_if (k := decide (pl < p.toList.length)) (Pt.eq (t_ltN (x := pl) (y := p.toList.length) (yv 3) (Py.eq (y_len (yv 1) E.b_len) (by rw [List.length_map]; rfl))) rfl) (fun hk => ?_) fun hk => ?_
      · have hk' := of_decide_eq_true hk
        rw [elast, if_pos hk']
        cases p with
        | none => simp at hk'
        | some q =>
          have : pl = 0 := by simpa using hk'
          subst this
          exact y_ixN (yv 1) (yv 3) rfl
      · rw [elast, if_neg (of_decide_eq_false hk)]
        exact Py.eq (y_len (y_fc 2 (yv 0)) E.b_len) (by rw [List.length_map]; rfl)
    refine ru_fold (List.range' st.2 (last - st.2)) natT (fun h n => stepF (mvAt rw n) h) st.1 (fun h => [.val rw.tf, .val (pT p), .own ((spotsL rw).map natT), .val (natT pl), .dic (kvsOf rw.cells h), .val (natT st.2), .val (natT last), .no, .no, .no, .no, .no, .no]) rfl rfl
      (i_rngN (x := st.2) (y := last) (yv 5) (yv 6) (by omega) (by omega) E.b_range) (fun j n h hn hh => ⟨_, _, g_name 7 sc_l_end.nd, ?_⟩) (fun _ => rfl) ?_
    · have hn' := List.mem_range'_1.mp (List.mem_of_getElem? hn)
      have hnl : n < rw.mv.length := by omega
      have om := o.mv _ (mv_mem hnl)
      refine ru_unt (ts := [.str (mvAt rw n).nm, .tup ((mvAt rw n).rd.map T.str), .str (mvAt rw n).gl]) rfl (y_ixM (f := Mv.t) (y_fc 2 (yv 0)) (yv 7) (mv_at hnl)) (gs_cons (g_name 9 sc_l_end.nd) (gs_cons (g_name 10 sc_l_end.nd) (gs_cons (g_name 11 sc_l_end.nd) gs_nil))) ?_
      refine ru_set 8 (y := .t (.tup ((mvAt rw n).rd.map h))) sc_l_end.nd (y_tupleL (PyN.arg ?q2) E.b_tuple) ?_
      case q2 =>
        exact y_lm (own := [("_law_own", 12)]) (mvAt rw n).rd T.str h [12] rfl sc_l_end.nd ((i_tup (yv 10)).c) (blkOk_by (N := n_l_end) (sc := defScope s_l_end) (by decide +kernel)) (by decide)
          fun c hc => ⟨_, fun s H C cl fp => ⟨g_name 12 sc_l_end.nd, y_dget (u1 hr) (yd 4) (yv 12) (dGet_kvs (om.rd c hc))⟩⟩
      refine ru_dput 4 (t := termF (mvAt rw n) h) (u1 hr) rfl ?q3 (yv 11) (ru_forget 7 (ru_forget 8 (ru_forget 9 (ru_forget 10 (ru_forget 11 (ru_end ?_)))))) (by unfold kvsOf; rw [List.length_map]; omega)
      case q3 =>
        refine y_if (k := decide ((mvAt rw n).nm = "copy")) (t_eqS (yv 9) y_str) (fun hk => ?_) fun hk => ?_
        · have hc := of_decide_eq_true hk
          have hlen := om.cp hc
          have e : termF (mvAt rw n) h = h ((mvAt rw n).rd.getD 0 "") := by unfold termF; rw [if_pos hc]
          rw [e]
          refine y_fc 0 (yv 8) ?_
          rw [List.getElem?_map, List.getD_eq_getElem?_getD]
          simp [show 0 < (mvAt rw n).rd.length by omega]
        · have hc := of_decide_eq_false hk
          have e : termF (mvAt rw n) h = T.tup [.str (mvAt rw n).nm, .tup ((mvAt rw n).rd.map h)] := by unfold termF; rw [if_neg hc]
          rw [e]
          exact y_tup (b_cons (yv 9) (b_cons (yv 8) b_nil))
      rw [dPut_kvs om.gl]
      rfl
    · rw [← runR_range hll]
      refine ru_if (k := decide (pl < p.toList.length)) (Pt.eq (t_ltN (x := pl) (y := p.toList.length) (yv 3) (Py.eq (y_len (yv 1) E.b_len) (by rw [List.length_map]; rfl))) rfl) (fun hk => ?_) fun hk => ?_
      · have hk' := of_decide_eq_true hk
        rw [if_pos hk'] at elast
        cases p with
        | none => simp at hk'
        | some q =>
          have hq := hp q rfl
          have e2 : last = q := elast
          subst e2
          refine ru_dput 4 (t := spoT pl) (u1 hr) rfl (y_tup (b_cons y_str (b_cons (yv 3) b_nil))) (y_fc 2 (y_ixM (f := Mv.t) (y_fc 2 (yv 0)) (yv 6) (mv_at hq))) ?_ (by unfold kvsOf; rw [List.length_map]; omega)
          rw [dPut_kvs (o.mv _ (mv_mem hq)).gl]
          refine ru_set 5 (y := .t (natT (markL rw last))) sc_l_end.nd (y_maxN (ns := (spotsL rw).filter fun s => decide (s ≤ last)) rfl (PyN.arg ?q4) ?_ E.b_max) (ru_end (ru_forget 3 (ru_forget 6 (ru_end ?_))))
          case q4 =>
            exact y_lc (own := [("_law_own", 12)]) (spotsL rw) natT (fun s => decide (s ≤ last)) natT [12] rfl sc_l_end.nd (i_lst (yl 2)) (blkOk_by (N := n_l_end) (sc := defScope s_l_end) (by decide +kernel)) (by decide)
              fun x hx => ⟨_, fun s H C cl fp => ⟨⟨g_name 12 sc_l_end.nd, ts_one (t_leN (yv 12) (yv 6))⟩, fun _ => yv 12⟩⟩
          · intro z
            have : (0 : Nat) ∈ (spotsL rw).filter fun s => decide (s ≤ last) := List.mem_filter.mpr ⟨by unfold spotsL; simp, by simp⟩
            rw [z] at this; cases this
          · show _ = [_, _, _, _, Sl.dic (kvsOf rw.cells (leSt rw (some last) st pl).1), Sl.val (natT (leSt rw (some last) st pl).2), _, _, _, _, _, _, _]
            unfold leSt
            rw [if_pos hk']
            rfl
      · have hk' := of_decide_eq_false hk
        rw [if_neg hk'] at elast
        refine ru_end (ru_forget 3 (ru_forget 6 (ru_end ?_)))
        show _ = [_, _, _, _, Sl.dic (kvsOf rw.cells (leSt rw p st pl).1), Sl.val (natT (leSt rw p st pl).2), _, _, _, _, _, _, _]
        unfold leSt
        rw [if_neg hk', elast]
        rfl
  · have e := le_end hp
    generalize (List.range (p.toList.length + 1)).foldl (leSt rw p) (oldT, 0) = st at e ⊢
    rw [e]
    refine ru_ret (y_tupleL (PyN.arg ?q) E.b_tuple) rfl
    exact y_lm (own := [("_law_own", 12)]) rw.want T.str (endC rw p) [12] rfl sc_l_end.nd ((i_tup (y_fc 1 (yv 0))).c) (blkOk_by (N := n_l_end) (sc := defScope s_l_end) (by decide +kernel)) (by decide)
      fun c hc => ⟨_, fun s H C cl fp => ⟨g_name 12 sc_l_end.nd, y_dget (u1 hr) (yd 4) (yv 12) (dGet_kvs (want_sub o hc))⟩⟩
end
end Nine
set_option maxHeartbeats 4000000
/-! K9F2: the defs on FLEETs, walked. -/
namespace Nine
open PySem PySem.Spec PyProof.Rows L2
structure Dev where
  nm : Str
  cls : Str
  tries : List Nat
def Dev.t (d : Dev) : T := .tup [.str d.nm, .str d.cls, .tup (d.tries.map natT)]
abbrev Fl := List Dev
def flT (fl : Fl) : T := .tup (fl.map Dev.t)
/-- a FLEET, its own moments, the lates -/
structure FlOk (fl : Fl) : Prop where
  few : fl.length ≤ 8
  tr : ∀ d ∈ fl, d.tries ≠ [] ∧ d.tries.length ≤ 4
abbrev Tm := Dev × Nat × Nat
/-- who fails, by when told -/
def badL (x : List Tm) (bad : List Str) : List (Nat × Nat × Str) := (x.filter fun p => decide (p.1.cls ∈ bad)).map fun p => (p.2.1, p.2.1 + p.2.2, p.1.nm)
def bT (p : Nat × Nat × Str) : T := .tup [natT p.1, natT p.2.1, .str p.2.2]
def minL (l : List Nat) : Nat := l.foldl min (l.headD 0)
theorem minL_le {l : List Nat} {x : Nat} (h : x ∈ l) : minL l ≤ x := by
  have key : ∀ (l : List Nat) (m : Nat), l.foldl min m ≤ m ∧ ∀ x ∈ l, l.foldl min m ≤ x := by
    intro l
    induction l with
    | nil => intro m; exact ⟨Nat.le_refl _, fun x hx => nomatch hx⟩
    | cons y l ih =>
      intro m
      obtain ⟨h1, h2⟩ := ih (min m y)
      refine ⟨Nat.le_trans h1 (Nat.min_le_left _ _), fun x hx => ?_⟩
      rcases List.mem_cons.mp hx with e | hx
      · rw [e]; exact Nat.le_trans h1 (Nat.min_le_right _ _)
      · exact h2 x hx
  exact (key l _).2 x h
theorem minL_mem {l : List Nat} (h : l ≠ []) : minL l ∈ l := by
  have key : ∀ (l : List Nat) (m : Nat), l.foldl min m = m ∨ l.foldl min m ∈ l := by
    intro l
    induction l with
    | nil => intro m; exact .inl rfl
    | cons y l ih =>
      intro m
      rcases ih (min m y) with e | h
      · by_cases hm : m ≤ y
        · left; show l.foldl min (min m y) = m; rw [e, Nat.min_eq_left hm]
        · right; show l.foldl min (min m y) ∈ y :: l; rw [e, Nat.min_eq_right (by omega)]; exact List.mem_cons_self
      · exact .inr (List.mem_cons_of_mem _ h)
  cases l with
  | nil => exact absurd rfl h
  | cons y l =>
    unfold minL
    rcases key (y :: l) y with e | h
    · show (y :: l).foldl min y ∈ y :: l
      rw [e]; exact List.mem_cons_self
    · exact h
section
variable {X : Cx} {e : Expr} {ρ : List Sl} {pos p : Pos}
theorem y_minN {ns : List Nat} (hc : X.calm = true) (h : PyS X e ρ (ns.map natT)) (hne : ns ≠ []) (hm : X.mg "min" = none) (hg : Gl X "min" := by rfl) (he : starEach [e] X.env = (false, eval e X.env) :: starEach [] X.env := by rfl) : Py X (.Call (.Name "min" p) [e] [] pos) ρ (natT (minL ns)) := by
  have e1 : ns.map natT = (ns.map fun n : Nat => (n : Int)).map T.int := by rw [List.map_map]; rfl
  rw [e1] at h
  refine y_minL (m := (minL ns : Int)) hc h (List.mem_map.mpr ⟨_, minL_mem hne, rfl⟩) (fun y hy => ?_) hm hg he
  obtain ⟨x, hx, rfl⟩ := List.mem_map.mp hy
  have := minL_le hx
  omega
end
section
variable {P : Program} {w : World} {K : PySem.W.Frag} {mg : Str → Option Value} {base : Heap}
def r_set_s (as : List A4) (r : A4) : Prop := ∃ xs : List Str, xs.length < 64 ∧ as = [.s (xs.map T.str)] ∧ r = .t (.tup ((ordU ltS xs).map T.str))
def clsL (fl : Fl) : List Str := ordU ltS (fl.map Dev.cls)
def r_class_names (as : List A4) (r : A4) : Prop := ∃ fl : Fl, FlOk fl ∧ as = [.t (flT fl)] ∧ r = .t (.tup ((clsL fl).map T.str))
theorem ok_class_names (E : E9 K mg) {k : Nat} (G1 : Ok9 P w base k E.f_set_of r_set_s) : Ok9 P w base (k + 1) E.f_class_names r_class_names := ok9 sc_class_names fun cdv A outer s H Ex as r hr hl h => by
  obtain ⟨fl, o, rfl, rfl⟩ := h
  have hf := o.few
  refine ru_ret (y_call (f := E.f_set_of) G1 hr (a1 (PyN.arg (x := .s ((fl.map Dev.cls).map T.str)) ?q)) ⟨fl.map Dev.cls, by rw [List.length_map]; omega, rfl, rfl⟩) rfl
  case q =>
    refine PyL.eq (y_lm (own := [("own", 1)]) fl Dev.t (fun d => .str d.cls) [1] rfl sc_class_names.nd ((i_tup (yv 0)).c) (blkOk_by (N := n_class_names) (sc := defScope s_class_names) (by decide +kernel)) (by decide)
      fun d hd => ⟨_, fun s H C cl fp => ⟨g_name 1 sc_class_names.nd, y_fd 1 (yv 1) E.c_CLASS⟩⟩) ?_
    rw [List.map_map]; rfl
def r_check_classes (as : List A4) (r : A4) : Prop := ∃ (fl : Fl) (bad : List Str), FlOk fl ∧ (∀ n ∈ bad, n ∈ fl.map Dev.cls) ∧ as = [.t (flT fl), .t (.tup (bad.map T.str))] ∧ r = .t .non
theorem ok_check_classes (E : E9 K mg) {k : Nat} (G1 : Ok9 P w base k E.f_class_names r_class_names) : Ok9 P w base (k + 1) E.f_check_classes r_check_classes := ok9 sc_check_classes fun cdv A outer s H Ex as r hr hl h => by
  obtain ⟨fl, bad, o, hb, rfl, rfl⟩ := h
  refine ru_set 2 (y := .t (.tup ((clsL fl).map T.str))) sc_check_classes.nd (y_callT (f := E.f_class_names) G1 hr (a1 (yv 0)) ⟨fl, o, rfl, rfl⟩) ?_
  refine ru_fold bad T.str (fun u _ => u) () (fun _ => [.val (flT fl), .val (.tup (bad.map T.str)), .val (.tup ((clsL fl).map T.str)), .no]) rfl rfl (i_tup (yv 1)) (fun i n u hn _ => ⟨_, _, g_name 3 sc_check_classes.nd, ?_⟩) (fun _ => rfl) (ru_end rfl)
  have hm := hb n (List.mem_of_getElem? hn)
  refine ru_skip (Pt.eq (t_niS (yv 3) (yv 2)) ?_) (ru_forget 3 (ru_end rfl))
  have hd : decide (n ∈ clsL fl) = true := decide_eq_true ((mem_ordU lin_str).mpr hm)
  rw [hd]
  rfl
theorem zip3_tm (x : List Tm) : ((List.range ((x.map fun p => p.1).map Dev.t).length).map fun i => T.tup [((x.map fun p => p.1).map Dev.t).getD i .non, ((x.map fun p => p.2.1).map natT).getD i .non, ((x.map fun p => p.2.2).map natT).getD i .non]) = x.map fun p => T.tup [p.1.t, natT p.2.1, natT p.2.2] := by
  refine List.ext_getElem? fun i => ?_
  rw [List.getElem?_map, List.getElem?_map]
  by_cases hi : i < x.length
  · rw [List.getElem?_range (by simpa using hi)]
    simp [hi]
  · rw [List.getElem?_eq_none (by simpa using hi), List.getElem?_eq_none (by simpa using hi)]
    rfl
abbrev flOf (x : List Tm) : Fl := x.map fun p => p.1
abbrev tmT (x : List Tm) : T := .tup ((x.map fun p => p.2.1).map natT)
abbrev ltT (x : List Tm) : T := .tup ((x.map fun p => p.2.2).map natT)
def r_bad_rows (as : List A4) (r : A4) : Prop := ∃ (x : List Tm) (bad : List Str), FlOk (flOf x) ∧ as = [.t (flT (flOf x)), .t (tmT x), .t (ltT x), .t (.tup (bad.map T.str))] ∧ r = .s ((badL x bad).map bT)
theorem ok_bad_rows (E : E9 K mg) {k : Nat} : Ok9 P w base (k + 1) E.f_bad_rows r_bad_rows := ok9 sc_bad_rows fun cdv A outer s H Ex as r hr hl h => by
  obtain ⟨x, bad, o, rfl, rfl⟩ := h
  have hf := o.few
  rw [List.length_map] at hf
  refine ru_set 4 (y := .s []) sc_bad_rows.nd (y_lst b_nil) ?_
  refine ru_fold x (fun p => T.tup [p.1.t, natT p.2.1, natT p.2.2]) (fun f p => f ++ badL [p] bad) [] (fun f => [.val (flT (flOf x)), .val (tmT x), .val (ltT x), .val (.tup (bad.map T.str)), .own (f.map bT), .no, .no, .no]) rfl rfl
    (PiI.eq (i_zip3 (yv 0) (yv 1) (yv 2) (by simp) (by simp) E.b_zip) (zip3_tm x)) (fun i p f hp hf2 => ⟨_, _, g_tup rfl (gs_cons (g_name 5 sc_bad_rows.nd) (gs_cons (g_name 6 sc_bad_rows.nd) (gs_cons (g_name 7 sc_bad_rows.nd) gs_nil))), ?_⟩) (fun _ => rfl) (ru_retOwn 4 rfl ?_)
  · have hfl : f.length ≤ 100 := by
      have key : ∀ (l : List Tm) (f : List (Nat × Nat × Str)), (l.foldl (fun f p => f ++ badL [p] bad) f).length ≤ f.length + l.length := by
        intro l
        induction l with
        | nil => intro f; simp
        | cons p l ih =>
          intro f
          rw [List.foldl_cons]
          have := ih (f ++ badL [p] bad)
          have h2 : (badL [p] bad).length ≤ 1 := by unfold badL; rw [List.length_map]; exact List.length_filter_le _ _
          rw [List.length_append] at this
          rw [List.length_cons]
          omega
      have := key (x.take i) []
      rw [← hf2, List.length_take] at this
      simp only [List.length_nil] at this
      omega
    refine ru_if (k := decide (p.1.cls ∈ bad)) (t_inS (y_fd 1 (yv 5) E.c_CLASS) (yv 3)) (fun hk => ?_) fun hk => ?_
    · refine ru_append 4 rfl (y_tup (b_cons (yv 6) (b_cons (y_addN (yv 6) (yv 7)) (b_cons (y_fd 0 (yv 5) E.c_DEVICE) b_nil)))) (ru_end (ru_forget 5 (ru_forget 6 (ru_forget 7 (ru_end ?_))))) (by rw [List.length_map]; omega)
      have e : badL [p] bad = [(p.2.1, p.2.1 + p.2.2, p.1.nm)] := by simp [badL, of_decide_eq_true hk]
      rw [e, List.map_append]
      rfl
    · refine ru_end (ru_forget 5 (ru_forget 6 (ru_forget 7 (ru_end ?_))))
      have e : badL [p] bad = [] := by simp [badL, of_decide_eq_false hk]
      rw [e, List.append_nil]
      rfl
  · have key : ∀ (l : List Tm) (f : List (Nat × Nat × Str)), l.foldl (fun f p => f ++ badL [p] bad) f = f ++ badL l bad := by
      intro l
      induction l with
      | nil => intro f; simp [badL]
      | cons p l ih =>
        intro f
        rw [List.foldl_cons, ih, List.append_assoc]
        congr 1
        by_cases hc : p.1.cls ∈ bad
        · simp [badL, List.filter_cons, hc]
        · simp [badL, List.filter_cons, hc]
    rw [key]
    rfl
def stopN (x : List Tm) (bad : List Str) : Nat := minL ((badL x bad).map fun p => p.2.1)
structure BadOk (x : List Tm) (bad : List Str) : Prop where
  ok : FlOk (flOf x)
  sub : ∀ n ∈ bad, n ∈ (flOf x).map Dev.cls
  ne : bad ≠ []
  bl : bad.length ≤ 1000
theorem BadOk.some {x : List Tm} {bad : List Str} (o : BadOk x bad) : badL x bad ≠ [] := by
  obtain ⟨c, hc⟩ := List.exists_mem_of_ne_nil _ o.ne
  obtain ⟨d, hd, e⟩ := List.mem_map.mp (o.sub c hc)
  obtain ⟨p, hp, e2⟩ := List.mem_map.mp hd
  intro z
  have : (p.2.1, p.2.1 + p.2.2, p.1.nm) ∈ badL x bad := List.mem_map.mpr ⟨p, List.mem_filter.mpr ⟨hp, decide_eq_true (by rw [e2, e]; exact hc)⟩, rfl⟩
  rw [z] at this
  cases this
def r_stopped (as : List A4) (r : A4) : Prop := ∃ (x : List Tm) (bad : List Str), BadOk x bad ∧ as = [.t (flT (flOf x)), .t (tmT x), .t (ltT x), .t (.tup (bad.map T.str))] ∧ r = .t (natT (stopN x bad))
theorem ok_stopped_at (E : E9 K mg) {k : Nat} (G1 : Ok9 P w base k E.f_check_classes r_check_classes) (G2 : Ok9 P w base k E.f_bad_rows r_bad_rows) : Ok9 P w base (k + 1) E.f_stopped_at r_stopped := ok9 sc_stopped_at fun cdv A outer s H Ex as r hr hl h => by
  obtain ⟨x, bad, o, rfl, rfl⟩ := h
  refine ru_call (y_call (f := E.f_check_classes) G1 hr (a_cons (yv 0) (a1 (yv 3))) ⟨flOf x, bad, o.ok, o.sub, rfl, rfl⟩) ?_
  refine ru_skip (Pt.eq (t_eqN (x := bad.length) (y := 0) (Py.eq (y_len (yv 3) E.b_len) (by rw [List.length_map]; rfl)) y_int) ?_) ?_
  · have := List.length_pos_iff.mpr o.ne
    rw [decide_eq_false_iff_not]; omega
  · refine ru_ret (y_minN (ns := (badL x bad).map fun p => p.2.1) rfl (PyN.arg ?q) ?_ E.b_min) rfl
    case q =>
      refine PyL.eq (y_lm (own := [("own", 4)]) (badL x bad) bT (fun p => natT p.2.1) [4] rfl sc_stopped_at.nd ((i_new (y_call (f := E.f_bad_rows) G2 hr (a_cons (yv 0) (a_cons (yv 1) (a_cons (yv 2) (a1 (yv 3))))) ⟨x, bad, o.ok, rfl, rfl⟩)).c) (blkOk_by (N := n_stopped_at) (sc := defScope s_stopped_at) (by decide +kernel)) (by decide)
        fun p hp => ⟨_, fun s H C cl fp => ⟨g_name 4 sc_stopped_at.nd, y_fc 1 (yv 4)⟩⟩) ?_
      rw [List.map_map]
      rfl
    · intro z
      exact o.some (List.map_eq_nil_iff.mp z)
def harmL (x : List Tm) (bad : List Str) : List Str := ((badL x bad).filter fun p => decide (p.1 < stopN x bad)).map fun p => p.2.2
def r_harmed (as : List A4) (r : A4) : Prop := ∃ (x : List Tm) (bad : List Str), BadOk x bad ∧ as = [.t (flT (flOf x)), .t (tmT x), .t (ltT x), .t (.tup (bad.map T.str))] ∧ r = .t (.tup ((harmL x bad).map T.str))
theorem ok_harmed (E : E9 K mg) {k : Nat} (G1 : Ok9 P w base k E.f_stopped_at r_stopped) (G2 : Ok9 P w base k E.f_bad_rows r_bad_rows) : Ok9 P w base (k + 1) E.f_harmed r_harmed := ok9 sc_harmed fun cdv A outer s H Ex as r hr hl h => by
  obtain ⟨x, bad, o, rfl, rfl⟩ := h
  refine ru_set 4 (y := .t (natT (stopN x bad))) sc_harmed.nd (y_callT (f := E.f_stopped_at) G1 hr (a_cons (yv 0) (a_cons (yv 1) (a_cons (yv 2) (a1 (yv 3))))) ⟨x, bad, o, rfl, rfl⟩) ?_
  refine ru_ret (y_tupleL (PyN.arg ?q) E.b_tuple) rfl
  refine PyL.eq (y_lc (own := [("begin", 5), ("told", 6), ("name", 7)]) (badL x bad) bT (fun p => decide (p.1 < stopN x bad)) (fun p => .str p.2.2) [5, 6, 7] rfl sc_harmed.nd ((i_new (y_call (f := E.f_bad_rows) G2 hr (a_cons (yv 0) (a_cons (yv 1) (a_cons (yv 2) (a1 (yv 3))))) ⟨x, bad, o.ok, rfl, rfl⟩)).c) (blkOk_by (N := n_harmed) (sc := defScope s_harmed) (by decide +kernel)) (by decide)
    fun p hp => ⟨_, fun s H C cl fp => ⟨⟨g_tup rfl (gs_cons (g_name 5 sc_harmed.nd) (gs_cons (g_name 6 sc_harmed.nd) (gs_cons (g_name 7 sc_harmed.nd) gs_nil))), ts_one (t_ltN (yv 5) (yv 4))⟩, fun _ => yv 7⟩⟩) ?_
  unfold harmL
  rw [List.map_map]
  rfl
end
end Nine
set_option maxHeartbeats 4000000
/-! K9F3: how many rows may be harmed, walked. -/
namespace Nine
open PySem PySem.Spec PyProof.Rows L2
section
variable {X : Cx} {a b c : Expr} {ρ : List Sl} {pos : Pos}
theorem y_chain {op op' : CmpOp} {g g' : Int → Int → Bool} {i j l : Int} (ho : OpR X (compareOp op) (rI0 fun i j => .bl (g i j))) (ho' : OpR X (compareOp op') (rI0 fun i j => .bl (g' i j))) (ha : Py X a ρ (.int i)) (hb : Py X b ρ (.int j)) (hc : Py X c ρ (.int l))
    (hm : lastMarks [op, op'] [b, c] = false := by with_unfolding_all rfl) : Py X (.Compare a [op, op'] [b, c] pos) ρ (.bl (g i j && g' j l)) :=
  PyG.of (pe_chain ho ho' pe_g pe_g pe_g hm) fun σ H C B st => g_use ha st fun x H1 s1 q1 => g_use hb (st.mono s1) fun y H2 s2 q2 => ⟨i, j, Im.int_eq q1, Im.int_eq q2, g i j, rfl, by
    cases hg : g i j with
    | false => exact iteF ⟨s1.trans s2, .bl _⟩
    | true => exact iteT (g_use hc (st.mono (s1.trans s2)) fun z H3 s3 q3 => ⟨j, l, Im.int_eq q2, Im.int_eq q3, (s1.trans s2).trans s3, .bl _⟩)⟩
end
def lastN (d : Dev) : Nat := d.tries.getLast?.getD 0
def shutL (fl : Fl) (m : Nat) : List Str := (fl.filter fun d => decide (lastN d < m)).map Dev.cls
def openL (fl : Fl) (m : Nat) : List Str := (clsL fl).filter fun n => !decide (n ∈ shutL fl m)
def rowsAt (fl : Fl) (m : Nat) : List (List Nat) := (fl.filter fun d => decide (d.cls ∈ openL fl m)).map Dev.tries
def natsT (l : List Nat) : T := .tup (l.map natT)
def withinB (m dl o : Nat) : Bool := decide (m ≤ o) && decide (o < m + dl)
def cntAt (fl : Fl) (dl m : Nat) : Nat := if (rowsAt fl m).any (fun t => decide (m ∈ t)) then ((rowsAt fl m).filter fun t => t.any (withinB m dl)).length else 0
def momL (fl : Fl) : List Nat := ordU ltN (fl.flatMap fun d => d.tries)
def mostL (fl : Fl) (dl : Nat) : Nat := maxL ((momL fl).map (cntAt fl dl))
section
variable {P : Program} {w : World} {K : PySem.W.Frag} {mg : Str → Option Value} {base : Heap}
def r_open (as : List A4) (r : A4) : Prop := ∃ (fl : Fl) (m : Nat), FlOk fl ∧ as = [.t (flT fl), .t (natT m)] ∧ r = .t (.tup ((openL fl m).map T.str))
theorem last_tr {d : Dev} (h : d.tries ≠ []) : atI (d.tries.map natT) (-1) = some (natT (lastN d)) := by
  have e : d.tries.getLast? = some (lastN d) := by
    unfold lastN
    cases q : d.tries.getLast? with
    | none => exact absurd (List.getLast?_eq_none_iff.mp q) h
    | some x => rfl
  exact last_ix e
theorem ok_open (E : E9 K mg) {k : Nat} (G1 : Ok9 P w base k E.f_class_names r_class_names) : Ok9 P w base (k + 1) E.f_open_classes r_open := ok9 sc_open_classes fun cdv A outer s H Ex as r hr hl h => by
  obtain ⟨fl, m, o, rfl, rfl⟩ := h
  -- fleet 0, moment 1, shut 2, own 3, name 4
  refine ru_set 2 (y := .s ((shutL fl m).map T.str)) sc_open_classes.nd ?q ?_
  case q =>
    refine PyL.eq (y_lc (own := [("own", 3)]) fl Dev.t (fun d => decide (lastN d < m)) (fun d => .str d.cls) [3] rfl sc_open_classes.nd ((i_tup (yv 0)).c) (blkOk_by (N := n_open_classes) (sc := defScope s_open_classes) (by decide +kernel)) (by decide)
      fun d hd => ⟨_, fun s H C cl fp => ⟨⟨g_name 3 sc_open_classes.nd, ts_one (t_ltN (y_ix (y_fd 2 (yv 3) E.c_TRIES) (y_neg y_int) (last_tr (o.tr d hd).1)) (yv 1))⟩, fun _ => y_fd 1 (yv 3) E.c_CLASS⟩⟩) ?_
    unfold shutL
    rw [List.map_map]
    rfl
  refine ru_ret (y_tupleL (PyN.arg ?q) E.b_tuple) rfl
  exact y_lc (own := [("name", 4)]) (clsL fl) T.str (fun n => !decide (n ∈ shutL fl m)) T.str [4] rfl sc_open_classes.nd ((i_tup (y_callT (f := E.f_class_names) G1 hr (a1 (yv 0)) ⟨fl, o, rfl, rfl⟩)).c) (blkOk_by (N := n_open_classes) (sc := defScope s_open_classes) (by decide +kernel)) (by decide)
    fun n hn => ⟨_, fun s H C cl fp => ⟨⟨g_name 4 sc_open_classes.nd, ts_one (t_niSL (yv 4) (yl 2))⟩, fun _ => yv 4⟩⟩
def r_count_at (as : List A4) (r : A4) : Prop := ∃ (fl : Fl) (dl m : Nat), FlOk fl ∧ as = [.t (flT fl), .t (natT dl), .t (natT m)] ∧ r = .t (natT (cntAt fl dl m))
theorem ok_count_at (E : E9 K mg) {k : Nat} (G1 : Ok9 P w base k E.f_open_classes r_open) : Ok9 P w base (k + 1) E.f_count_at r_count_at := ok9 sc_count_at fun cdv A outer s H Ex as r hr hl h => by
  obtain ⟨fl, dl, m, o, rfl, rfl⟩ := h
  -- fleet 0, delay 1, moment 2, kinds 3, rows 4, own 5, tries 6
  refine ru_set 3 (y := .t (.tup ((openL fl m).map T.str))) sc_count_at.nd (y_callT (f := E.f_open_classes) G1 hr (a_cons (yv 0) (a1 (yv 2))) ⟨fl, m, o, rfl, rfl⟩) ?_
  refine ru_setLc 4 (own := [("own", 5)]) fl Dev.t (fun d => decide (d.cls ∈ openL fl m)) (fun d => natsT d.tries) [5] rfl sc_count_at.nd ((i_tup (yv 0)).c) (blkOk_by (N := n_count_at) (sc := defScope s_count_at) (by decide +kernel)) (by decide)
    (fun d hd => ⟨_, fun s H C cl fp => ⟨⟨g_name 5 sc_count_at.nd, ts_one (t_inS (y_fd 1 (yv 5) E.c_CLASS) (yv 3))⟩, fun _ => y_fd 2 (yv 5) E.c_TRIES⟩⟩) ?_
  have er : (fl.filter fun d => decide (d.cls ∈ openL fl m)).map (fun d => natsT d.tries) = (rowsAt fl m).map natsT := by unfold rowsAt; rw [List.map_map]; rfl
  rw [er]
  refine ru_if (k := !(rowsAt fl m).any (fun t => decide (m ∈ t))) (t_not (t_val ?q1)) (fun hk => ?_) fun hk => ru_end ?_
  case q1 =>
    refine Py.eq (y_any (bs := (rowsAt fl m).map fun t => decide (m ∈ t)) rfl (PyN.arg ?_) E.b_any) (by rw [List.any_map]; rfl)
    refine PyL.eq (y_lm (own := [("tries", 6)]) (rowsAt fl m) natsT (fun t => .bl (decide (m ∈ t))) [6] rfl sc_count_at.nd (i_lst (yl 4)) (blkOk_by (N := n_count_at) (sc := defScope s_count_at) (by decide +kernel)) (by decide)
      fun t ht => ⟨_, fun s H C cl fp => ⟨g_name 6 sc_count_at.nd, y_inN (yv 2) (yv 6)⟩⟩) ?_
    rw [List.map_map]
    rfl
  · have e0 : natT (cntAt fl dl m) = .int 0 := by
      unfold cntAt
      rw [if_neg (by rw [Bool.not_eq_true']  at hk; rw [hk]; exact Bool.false_ne_true)]
      rfl
    refine ru_ret (x := .t (natT (cntAt fl dl m))) ?_ rfl
    rw [e0]
    exact y_int
  · have e1 : cntAt fl dl m = ((rowsAt fl m).filter fun t => t.any (withinB m dl)).length := by
      unfold cntAt
      rw [if_pos (by rw [Bool.not_eq_false'] at hk; exact hk)]
    refine ru_ret (x := .t (natT (cntAt fl dl m))) (Py.eq (y_lenL (ts := ((rowsAt fl m).filter fun t => t.any (withinB m dl)).map natsT) (PyN.arg ?q) E.b_len) ?_) rfl
    case q =>
      refine y_lc (own := [("tries", 6)]) (rowsAt fl m) natsT (fun t => t.any (withinB m dl)) natsT [6] rfl sc_count_at.nd (i_lst (yl 4)) (blkOk_by (N := n_count_at) (sc := defScope s_count_at) (by decide +kernel)) (by decide)
        fun t ht => ⟨_, fun s H C cl fp => ⟨⟨g_name 6 sc_count_at.nd, ts_one (t_val ?_)⟩, fun _ => yv 6⟩⟩
      refine Py.eq (y_any (bs := t.map (withinB m dl)) rfl (PyN.arg ?_) E.b_any) (by rw [List.any_map]; rfl)
      refine PyL.eq (y_lm (own := [("own", 5)]) t natT (fun o => .bl (withinB m dl o)) [5] rfl sc_count_at.nd ((i_tup (yv 6)).c) (blkOk_by (by rfl)) (by decide)
        fun x hx => ⟨_, fun s H C cl fp => ⟨g_name 5 sc_count_at.nd, Py.eq (y_chain (i := (m : Int)) (j := (x : Int)) (l := ((m + dl : Nat) : Int)) op_le op_lt (yv 2) (yv 5) (y_addN (yv 2) (yv 1))) ?_⟩⟩) ?_
      · unfold withinB
        congr 1
        rw [Bool.eq_iff_iff]
        simp
        omega
      · rw [List.map_map]
        rfl
    · rw [List.length_map, e1]
      rfl
def r_moments (as : List A4) (r : A4) : Prop := ∃ fl : Fl, FlOk fl ∧ as = [.t (flT fl)] ∧ r = .t (.tup ((momL fl).map natT))
theorem mom_len {fl : Fl} (o : FlOk fl) : (fl.flatMap fun d => d.tries).length ≤ 32 := by
  have key : ∀ l : Fl, (∀ d ∈ l, d.tries.length ≤ 4) → (l.flatMap fun d => d.tries).length ≤ 4 * l.length := by
    intro l
    induction l with
    | nil => intro _; simp
    | cons d l ih =>
      intro h
      rw [List.flatMap_cons, List.length_append, List.length_cons]
      have := ih fun x hx => h x (List.mem_cons_of_mem _ hx)
      have h1 := h d List.mem_cons_self
      omega
  have := key fl fun d hd => (o.tr d hd).2
  have := o.few
  omega
theorem ok_moments (E : E9 K mg) {k : Nat} (G1 : Ok9 P w base k E.f_set_of r_set_n) : Ok9 P w base (k + 1) E.f_all_moments r_moments := ok9 sc_all_moments fun cdv A outer s H Ex as r hr hl h => by
  obtain ⟨fl, o, rfl, rfl⟩ := h
  have hml := mom_len o
  refine ru_ret (y_call (f := E.f_set_of) G1 hr (a1 (PyN.arg (x := .s ((fl.flatMap fun d => d.tries).map natT)) ?q)) ⟨_, by omega, rfl, rfl⟩) rfl
  case q =>
    refine PyL.eq (y_lc2 (own := [("own", 1), ("moment", 2)]) (vs1 := [2]) fl Dev.t (fun d => d.tries) natT (fun _ m => natT m) [1] [2] rfl sc_all_moments.nd ((i_tup (yv 0)).c) (blkOk_by (N := n_all_moments) (sc := defScope s_all_moments) (by decide +kernel)) (by decide) (by decide) (by decide)
      (fun d hd => ⟨_, rfl, fun s H C cl fp => ⟨g_name 1 sc_all_moments.nd, y_fd 2 (yv 1) E.c_TRIES⟩, fun m hm => ⟨_, fun s H C cl fp => ⟨g_name 2 sc_all_moments.nd, yv 2⟩⟩⟩) (by omega)) ?_
    rw [List.map_flatMap]
def r_counts (as : List A4) (r : A4) : Prop := ∃ (fl : Fl) (dl : Nat), FlOk fl ∧ as = [.t (flT fl), .t (natT dl)] ∧ r = .t (.tup ((momL fl).map fun m => T.tup [natT m, natT (cntAt fl dl m)]))
theorem ok_counts (E : E9 K mg) {k : Nat} (G1 : Ok9 P w base k E.f_all_moments r_moments) (G2 : Ok9 P w base k E.f_count_at r_count_at) : Ok9 P w base (k + 1) E.f_fleet_counts r_counts := ok9 sc_fleet_counts fun cdv A outer s H Ex as r hr hl h => by
  obtain ⟨fl, dl, o, rfl, rfl⟩ := h
  refine ru_ret (y_tupleL (PyN.arg ?q) E.b_tuple) rfl
  exact y_lm (own := [("moment", 2)]) (momL fl) natT (fun m => T.tup [natT m, natT (cntAt fl dl m)]) [2] rfl sc_fleet_counts.nd ((i_tup (y_callT (f := E.f_all_moments) G1 hr (a1 (yv 0)) ⟨fl, o, rfl, rfl⟩)).c) (blkOk_by (N := n_fleet_counts) (sc := defScope s_fleet_counts) (by decide +kernel)) (by decide)
    fun m hm => ⟨_, fun s H C cl fp => ⟨g_name 2 sc_fleet_counts.nd, y_tup (b_cons (yv 2) (b_cons (y_callT (f := E.f_count_at) G2 hr (a_cons (yv 0) (a_cons (yv 1) (a1 (yv 2)))) ⟨fl, dl, m, o, rfl, rfl⟩) b_nil))⟩⟩
def r_most (as : List A4) (r : A4) : Prop := ∃ (fl : Fl) (dl : Nat), FlOk fl ∧ fl ≠ [] ∧ as = [.t (flT fl), .t (natT dl)] ∧ r = .t (natT (mostL fl dl))
theorem mom_ne {fl : Fl} (o : FlOk fl) (h : fl ≠ []) : momL fl ≠ [] := by
  cases fl with
  | nil => exact absurd rfl h
  | cons d l =>
    obtain ⟨x, hx⟩ := List.exists_mem_of_ne_nil _ (o.tr d List.mem_cons_self).1
    intro z
    have : x ∈ momL (d :: l) := (mem_ordU lin_nat).mpr (List.mem_flatMap.mpr ⟨d, List.mem_cons_self, hx⟩)
    rw [z] at this
    cases this
theorem ok_most (E : E9 K mg) {k : Nat} (G1 : Ok9 P w base k E.f_fleet_counts r_counts) : Ok9 P w base (k + 1) E.f_most_harmed r_most := ok9 sc_most_harmed fun cdv A outer s H Ex as r hr hl h => by
  obtain ⟨fl, dl, o, hne, rfl, rfl⟩ := h
  refine ru_ret (y_maxN (ns := (momL fl).map (cntAt fl dl)) rfl (PyN.arg ?q) (fun z => mom_ne o hne (List.map_eq_nil_iff.mp z)) E.b_max) rfl
  refine PyL.eq (y_lm (own := [("moment", 2), ("number", 3)]) (momL fl) (fun m => T.tup [natT m, natT (cntAt fl dl m)]) (fun m => natT (cntAt fl dl m)) [2, 3] rfl sc_most_harmed.nd ((i_tup (y_callT (f := E.f_fleet_counts) G1 hr (a_cons (yv 0) (a1 (yv 1))) ⟨fl, dl, o, rfl, rfl⟩)).c) (blkOk_by (N := n_most_harmed) (sc := defScope s_most_harmed) (by decide +kernel)) (by decide)
    fun m hm => ⟨_, fun s H C cl fp => ⟨g_tup rfl (gs_cons (g_name 2 sc_most_harmed.nd) (gs_cons (g_name 3 sc_most_harmed.nd) gs_nil)), yv 3⟩⟩) ?_
  rw [List.map_map]
  rfl
end
end Nine
set_option maxHeartbeats 4000000
/-! K9L3: the law's run moment by moment, its timings, walked. -/
namespace Nine
open PySem PySem.Spec PyProof.Rows L2
def bAt (x : List Tm) (k : Nat) : Nat := (x.map fun p => p.2.1).getD k 0
def lAt (x : List Tm) (k : Nat) : Nat := (x.map fun p => p.2.2).getD k 0
def dAt (x : List Tm) (k : Nat) : Dev := (flOf x).getD k ⟨"", "", []⟩
theorem b_at {x : List Tm} {k : Nat} (h : k < x.length) : (x.map fun p => p.2.1)[k]? = some (bAt x k) := by
  unfold bAt; rw [List.getD_eq_getElem?_getD]; simp [h]
theorem l_at {x : List Tm} {k : Nat} (h : k < x.length) : (x.map fun p => p.2.2)[k]? = some (lAt x k) := by
  unfold lAt; rw [List.getD_eq_getElem?_getD]; simp [h]
theorem d_at {x : List Tm} {k : Nat} (h : k < x.length) : (flOf x)[k]? = some (dAt x k) := by
  unfold dAt; rw [List.getD_eq_getElem?_getD]; simp [h]
abbrev RS := List Nat × Option Nat
def toldL (x : List Tm) (hit : List Nat) (now : Nat) : List Nat := hit.filter fun k => decide (bAt x k + lAt x k ≤ now)
def rsStop (x : List Tm) (st : RS) (now : Nat) : Option Nat := if st.2 = none ∧ toldL x st.1 now ≠ [] then some now else st.2
def newL (x : List Tm) (bad : List Str) (now : Nat) : List Nat := (List.range x.length).filter fun k => decide (bAt x k = now) && decide ((dAt x k).cls ∈ bad)
def rsStep (x : List Tm) (bad : List Str) (st : RS) (now : Nat) : RS :=
  (if rsStop x st now = none then st.1 ++ newL x bad now else st.1, rsStop x st now)
def rsRun (x : List Tm) (bad : List Str) : RS := (List.range 20).foldl (rsStep x bad) ([], none)
theorem rs_len {x : List Tm} {bad : List Str} : ∀ (l : List Nat) (st : RS), (l.foldl (rsStep x bad) st).1.length ≤ st.1.length + x.length * l.length
  | [], st => by simp
  | n :: l, st => by
    rw [List.foldl_cons]
    have h1 := rs_len l (rsStep x bad st n) (x := x) (bad := bad)
    have h2 : (rsStep x bad st n).1.length ≤ st.1.length + x.length := by
      unfold rsStep
      split
      · rw [List.length_append]
        have := List.length_filter_le (fun k => decide (bAt x k = n) && decide ((dAt x k).cls ∈ bad)) (List.range x.length)
        rw [List.length_range] at this
        unfold newL
        omega
      · exact Nat.le_add_right _ _
    rw [List.length_cons, Nat.mul_add, Nat.mul_one]
    omega
theorem rs_mem {x : List Tm} {bad : List Str} : ∀ (l : List Nat) (st : RS), (∀ k ∈ st.1, k < x.length) → ∀ k ∈ (l.foldl (rsStep x bad) st).1, k < x.length
  | [], st, h => h
  | n :: l, st, h => by
    rw [List.foldl_cons]
    refine rs_mem l _ fun k hk => ?_
    unfold rsStep at hk
    split at hk
    · rcases List.mem_append.mp hk with hk | hk
      · exact h k hk
      · exact List.mem_range.mp (List.mem_filter.mp hk).1
    · exact h k hk
theorem nats_cmp (l : List Nat) : A4.cmp (.s (l.map natT)) := by
  show SeqAt.shaped (A4.dt (.s (l.map natT))) = true
  have key : ∀ l : List Nat, PyData.canLayAll0 (T.ds (l.map natT)) = true ∧ PyData.depthAll (T.ds (l.map natT)) = 0 := by
    intro l
    induction l with
    | nil => exact ⟨rfl, rfl⟩
    | cons n l ih =>
      rw [List.map_cons]
      simp only [T.ds, PyData.canLayAll0, PyData.depthAll, natT, T.d, PyData.canLay0, PyData.depth, Bool.true_and]
      exact ⟨ih.1, (Nat.max_eq_right (Nat.zero_le _)).trans ih.2⟩
  exact Bool.and_eq_true_iff.mpr ⟨(key l).1, decide_eq_true (by show PyData.depthAll (T.ds (l.map natT)) + 1 ≤ 64; rw [(key l).2]; decide)⟩
theorem nats_ne (l : List Nat) : (!PyData.eqv (A4.dt (.s (l.map natT))) (A4.dt (.s []))) = decide (l ≠ []) := by
  cases l with
  | nil => rfl
  | cons n l => simp [A4.dt, T.ds, PyData.eqv, PyData.eqvAll]
theorem opt_non {K : PySem.W.Frag} {H : Hp} {v : V} {o : Option Nat} (h : Im K H v (optT o)) : decide (v = .non) = decide (o = none) := by
  cases o with
  | none => cases h; rfl
  | some n => rw [Im.int_eq (i := (n : Int)) h]; rfl
section
variable {P : Program} {w : World} {K : PySem.W.Frag} {mg : Str → Option Value} {base : Heap}
def runT (x : List Tm) (bad : List Str) : T := .tup [.tup ((ordU ltS ((rsRun x bad).1.map fun k => (dAt x k).nm)).map T.str), optT (rsRun x bad).2]
def r_l_run (as : List A4) (r : A4) : Prop := ∃ (x : List Tm) (bad : List Str), FlOk (flOf x) ∧ ((rsRun x bad).1.map fun k => (dAt x k).nm).Nodup ∧ as = [.t (flT (flOf x)), .t (tmT x), .t (ltT x), .t (.tup (bad.map T.str))] ∧ r = .t (runT x bad)
theorem ok_l_run (E : E9 K mg) {k : Nat} : Ok9 P w base (k + 1) E.f_l_run r_l_run := ok9 sc_l_run fun cdv A outer s H Ex as r hr hl h => by
  obtain ⟨x, bad, o, nd, rfl, rfl⟩ := h
  have hf := o.few
  rw [List.length_map] at hf
  -- fleet 0, begins 1, lates 2, ill 3, now 4, hit 5, stop 6, told 7, k 8
  refine ru_par 5 6 (u := .s []) (w := .t .non) rfl sc_l_run.nd (by decide) (y_lst b_nil) y_non ?_
  refine ru_fold (List.range 20) natT (rsStep x bad) ([], none) (fun st => [.val (flT (flOf x)), .val (tmT x), .val (ltT x), .val (.tup (bad.map T.str)), .no, .own (st.1.map natT), .val (optT st.2), .no, .no]) rfl rfl
    (i_rng (n := 20) y_int (by omega) E.b_range) (fun i now st hn hst => ⟨_, _, g_name 4 sc_l_run.nd, ?_⟩) (fun _ => rfl) ?_
  · have hlen : st.1.length ≤ 400 := by
      have := rs_len (x := x) (bad := bad) ((List.range 20).take i) ([], none)
      rw [← hst] at this
      have h2 : ((List.range 20).take i).length ≤ 20 := by rw [List.length_take, List.length_range]; omega
      simp only [List.length_nil, Nat.zero_add] at this
      have := Nat.le_trans this (Nat.mul_le_mul hf h2)
      omega
    have hin : ∀ k ∈ st.1, k < x.length := by
      have := rs_mem (x := x) (bad := bad) ((List.range 20).take i) ([], none) (fun _ z => nomatch z)
      rw [← hst] at this
      exact this
    refine ru_setLc 7 (own := [("_law_k", 8)]) st.1 natT (fun k => decide (bAt x k + lAt x k ≤ now)) natT [8] rfl sc_l_run.nd (i_lst (yl 5)) (blkOk_by (N := n_l_run) (sc := defScope s_l_run) (by decide +kernel)) (by decide)
      (fun k hk => ⟨_, fun s H C cl fp => ⟨⟨g_name 8 sc_l_run.nd, ts_one (t_leN (y_addN (y_ixM (f := natT) (yv 1) (yv 8) (b_at (hin k hk))) (y_ixM (f := natT) (yv 2) (yv 8) (l_at (hin k hk)))) (yv 4))⟩, fun _ => yv 8⟩⟩) ?_
    rw [show st.1.filter (fun k => decide (bAt x k + lAt x k ≤ now)) = toldL x st.1 now from rfl]
    have ec : (decide (st.2 = none) && decide (toldL x st.1 now ≠ [])) = decide (st.2 = none ∧ toldL x st.1 now ≠ []) := by rw [Bool.eq_iff_iff]; simp
    have rest : ∀ ρ', ρ' = [Sl.val (flT (flOf x)), .val (tmT x), .val (ltT x), .val (.tup (bad.map T.str)), .val (natT now), .own (st.1.map natT), .val (optT (rsStop x st now)), .own ((toldL x st.1 now).map natT), .no] → True := fun _ _ => trivial
    have tail : ∀ {Y : Cx} , True := fun {_} => trivial
    refine ru_if (k := decide (st.2 = none ∧ toldL x st.1 now ≠ [])) (Pt.eq (t_and (t_isN (t := optT st.2) (yv 6) fun _ _ _ h => opt_non h) fun _ => Pt.eq (t_neD hr.units (x := .s ((toldL x st.1 now).map natT)) (y := .s []) (yl 7) (PyN.arg (y_lst b_nil)) (nats_cmp _) (nats_cmp [])) (nats_ne _)) ec) (fun hk => ?_) fun hk => ?_
    · have h1 := of_decide_eq_true hk
      have e1 : rsStop x st now = some now := by unfold rsStop; rw [if_pos h1]
      refine ru_set 6 (y := .t (natT now)) sc_l_run.nd (yv 4) (ru_end ?_)
      refine ru_if (k := false) (Pt.eq (t_isN (t := natT now) (yv 6) (k := false) fun _ _ _ h => by rw [Im.int_eq (i := (now : Int)) h]; rfl) rfl) (fun z => nomatch z) fun _ => ru_end (ru_forget 4 (ru_forget 7 (ru_end ?_)))
      show _ = [_, _, _, _, _, Sl.own ((rsStep x bad st now).1.map natT), Sl.val (optT (rsStep x bad st now).2), _, _]
      unfold rsStep
      rw [e1]
      rfl
    · have h1 := of_decide_eq_false hk
      have e1 : rsStop x st now = st.2 := by unfold rsStop; rw [if_neg h1]
      refine ru_end ?_
      refine ru_if (k := decide (st.2 = none)) (t_isN (t := optT st.2) (yv 6) fun _ _ _ h => opt_non h) (fun h2 => ?_) fun h2 => ?_
      · refine ru_set 5 (y := .s ((st.1 ++ newL x bad now).map natT)) sc_l_run.nd ?q (ru_end (ru_forget 4 (ru_forget 7 (ru_end ?_))))
        case q =>
          refine PyL.eq (y_catL (ts := st.1.map natT) (us := (newL x bad now).map natT) (yo 5) (PyN.o ?_) ?_) (by rw [List.map_append])
          · exact y_lc (own := [("_law_k", 8)]) (List.range x.length) natT (fun k => decide (bAt x k = now) && decide ((dAt x k).cls ∈ bad)) natT [8] rfl sc_l_run.nd ((i_rng (n := x.length) (Py.eq (y_len (yv 0) E.b_len) (by simp [natT])) (by omega) E.b_range).c) (blkOk_by (N := n_l_run) (sc := defScope s_l_run) (by decide +kernel)) (by decide)
              fun k hk => ⟨_, fun s H C cl fp => ⟨⟨g_name 8 sc_l_run.nd, ts_one (t_and (t_eqN (y_ixM (f := natT) (yv 1) (yv 8) (b_at (List.mem_range.mp hk))) (yv 4)) fun _ => t_inS (y_fc 1 (y_ixM (f := Dev.t) (yv 0) (yv 8) (d_at (List.mem_range.mp hk)))) (yv 3))⟩, fun _ => yv 8⟩⟩
          · have := List.length_filter_le (fun k => decide (bAt x k = now) && decide ((dAt x k).cls ∈ bad)) (List.range x.length)
            rw [List.length_range] at this
            simp only [List.length_map]
            unfold newL
            omega
        show _ = [_, _, _, _, _, Sl.own ((rsStep x bad st now).1.map natT), Sl.val (optT (rsStep x bad st now).2), _, _]
        unfold rsStep
        rw [e1, if_pos (of_decide_eq_true h2)]
        rfl
      · refine ru_end (ru_forget 4 (ru_forget 7 (ru_end ?_)))
        show _ = [_, _, _, _, _, Sl.own ((rsStep x bad st now).1.map natT), Sl.val (optT (rsStep x bad st now).2), _, _]
        unfold rsStep
        rw [e1, if_neg (of_decide_eq_false h2)]
        rfl
  · have hin : ∀ k ∈ (rsRun x bad).1, k < x.length := rs_mem (x := x) (bad := bad) (List.range 20) ([], none) (fun _ z => nomatch z)
    refine ru_ret (x := .t (runT x bad)) (y_tup (b_cons (y_tupleL (PyN.arg (y_srtS nd hr.units (PyN.arg (x := .s (((rsRun x bad).1.map fun k => (dAt x k).nm).map T.str)) ?q) E.b_sorted)) E.b_tuple) (b_cons (yv 6) b_nil))) rfl
    refine PyL.eq (y_lm (own := [("_law_k", 8)]) (rsRun x bad).1 natT (fun k => .str (dAt x k).nm) [8] rfl sc_l_run.nd (i_lst (yl 5)) (blkOk_by (N := n_l_run) (sc := defScope s_l_run) (by decide +kernel)) (by decide)
      fun k hk => ⟨_, fun s H C cl fp => ⟨g_name 8 sc_l_run.nd, y_fc 0 (y_ixM (f := Dev.t) (yv 0) (yv 8) (d_at (hin k hk)))⟩⟩) ?_
    rw [List.map_map]
    rfl
end
end Nine
set_option maxHeartbeats 4000000
/-! K9I: isinstance; the law's comparison, walked. -/
namespace Nine
open PySem PySem.Spec PyProof.Rows L2
def tyT : T → String
  | .non => "NoneType"
  | .bl _ => "bool"
  | .int _ => "int"
  | .str _ => "str"
  | .tup _ => "tuple"
  | .tuf _ => "tuple"
  | .lst _ => "list"
def tyA : A4 → String
  | .t x => tyT x
  | .s _ => "list"
  | .d _ => "dict"
section
variable {K : PySem.W.Frag} {H : Hp}
theorem seq_ty {a : Addr} {xs : List V} (h : SqL K H a xs) : TyX K H (.ref a) (.type "list") := by
  rcases h with (h | ⟨o, h⟩) | ⟨o, its, n, hk, hc, _⟩
  · exact .base (.lst h)
  · exact .base (.frz h)
  · exact .kList hk hc
theorem tup_ty {a : Addr} {xs : List V} (h : SqT K H a xs) : TyX K H (.ref a) (.type "tuple") := by
  rcases h with (h | ⟨o, h⟩) | ⟨o, its, n, hk, hc, _⟩
  · exact .base (.tup h)
  · exact .fTuple h
  · exact .kTuple hk hc
theorem arg_ty {v : V} {x : A4} (h : ArgOk K H v x) : TyX K H v (.type (tyA x)) := by
  cases x with
  | t t =>
    have h' : Im K H v t := h
    cases h' with
    | non => exact .base .non
    | bl b => exact .base (.bl b)
    | int i => exact .base (.int i)
    | str z => exact .base (.str z)
    | tup hs _ => exact tup_ty hs
    | tuf hs _ => exact .fTuple hs
    | lst hs _ => exact .base (.frz hs)
  | s ts =>
    obtain ⟨p, xs, rfl, hs, _⟩ := h
    exact seq_ty hs
  | d kvs =>
    obtain ⟨p, ks, rfl, hs, _⟩ := h
    exact .base (.dK hs)
end
section
variable {X : Cx} {e e2 tg : Expr} {ρ : List Sl} {pos p p1 p2 p3 : Pos} {x : A4} {ts : List T}
theorem Py.ls (h : Py X e ρ (.lst ts)) : PyS X e ρ ts := h.imp fun _ _ H' _ q => by
  cases q with
  | lst hs ha => exact ⟨_, _, rfl, .inl (.inr ⟨_, hs⟩), ha⟩
/-- isinstance(e, a built-in type) -/
theorem y_isi {n : Str} {T9 : String} {b : Bool} (ha : PyA X e ρ x) (hk : kitB (tyA x) T9 = some b) (hv : bootBuiltins n = some (.type T9)) (hm : X.mg "isinstance" = none) (hn : X.mg n = none) (hg : Gl X "isinstance" := by rfl) (hg2 : Gl X n := by rfl) (hn1 : n ≠ "__name__" := by decide) (hd : (n == ("__debug__" : Str)) = false := by decide)
    (he : starEach [e, .Name n p2] X.env = (false, eval e X.env) :: starEach [.Name n p2] X.env := by rfl) (he2 : starEach [.Name n p2] X.env = (false, eval (.Name n p2) X.env) :: starEach [] X.env := by rfl) (hpl : (backTo pos (starEach [.Name n p2] X.env)).any (·.1) = false := by rfl) :
    Py X (.Call (.Name "isinstance" p) [e, .Name n p2] [] pos) ρ (.bl b) :=
  PyG.of (pe_callB call_isi hg hm (by decide +kernel) (pa_cons pe_g (pa_cons (pe_bltn (v := .ty T9) hg2 hn hv rfl hn1 hd) pa_nil he2) he) (by decide) (by decide) he hpl) fun σ H C B st => g_use ha st fun v H1 s1 q1 =>
    ⟨v, .ty T9, _, _, b, rfl, .ty T9, arg_ty q1, kit_ty hk, s1, .bl b⟩
/-- isinstance(e, (T1, T2)) -/
theorem y_isi2 {n m : Str} {T1 T2 : String} {a b : Bool} {k : Nat} (ha : PyA X e ρ x) (hk : kitB (tyA x) T1 = some a) (hk2 : kitB (tyA x) T2 = some b) (hv : bootBuiltins n = some (.type T1)) (hv2 : bootBuiltins m = some (.type T2)) (hm : X.mg "isinstance" = none) (hn : X.mg n = none) (hn2 : X.mg m = none)
    (hg : Gl X "isinstance" := by rfl) (hg2 : Gl X n := by rfl) (hg3 : Gl X m := by rfl) (hn1 : n ≠ "__name__" := by decide) (hd : (n == ("__debug__" : Str)) = false := by decide) (hn3 : m ≠ "__name__" := by decide) (hd3 : (m == ("__debug__" : Str)) = false := by decide)
    (he : starEach [e, .Tuple [.Name n p1, .Name m p2] k p3] X.env = (false, eval e X.env) :: starEach [.Tuple [.Name n p1, .Name m p2] k p3] X.env := by rfl) (he2 : starEach [.Tuple [.Name n p1, .Name m p2] k p3] X.env = (false, eval (.Tuple [.Name n p1, .Name m p2] k p3) X.env) :: starEach [] X.env := by rfl)
    (he3 : starEach [.Name n p1, .Name m p2] X.env = (false, eval (.Name n p1) X.env) :: starEach [.Name m p2] X.env := by rfl) (he4 : starEach [.Name m p2] X.env = (false, eval (.Name m p2) X.env) :: starEach [] X.env := by rfl)
    (hpl : (backTo pos (starEach [.Tuple [.Name n p1, .Name m p2] k p3] X.env)).any (·.1) = false := by rfl) :
    Py X (.Call (.Name "isinstance" p) [e, .Tuple [.Name n p1, .Name m p2] k p3] [] pos) ρ (.bl (a || b)) :=
  PyG.of (pe_callB call_isiT hg hm (by decide +kernel) (pa_cons pe_g (pa_cons (pe_tup (pa_cons (pe_bltn (v := .ty T1) hg2 hn hv rfl hn1 hd) (pa_cons (pe_bltn (v := .ty T2) hg3 hn2 hv2 rfl hn3 hd3) pa_nil he4) he3)) pa_nil he2) he) (by decide) (by decide) he hpl) fun σ H C B st => g_use ha st fun v H1 s1 q1 => by
    refine ⟨by show 2 ≤ sizeLine; decide, fun q hq => ?_⟩
    have sn : Same H1 (upd H1 q (.tup [.ty T1, .ty T2])) := same_new hq
    exact ⟨v, q, _, _, _, a || b, rfl, upd_same, .cons (.ty T1) (.cons (.ty T2) .nil), arg_ty (q1.mono sn), kitAny_cons (kit_ty hk) (fun h => by rw [h, Bool.false_or]; exact kitAny_cons (kit_ty hk2) (fun h2 => by rw [h2]; exact kitAny_nil) fun h2 => h2) (fun h => by rw [h, Bool.true_or]), s1.trans sn, .bl _⟩
/-- zip of two lists, to a comprehension -/
theorem i_zipL {ss us : List T} {elts : List Expr} {kk : Nat} {tpos : Pos} (h : PyS X e ρ ss) (h2 : PyS X e2 ρ us) (hl : ss.length = us.length) (hm : X.mg "zip" = none) (hg : Gl X "zip" := by rfl)
    (hs : starEach [e, e2] X.env = (false, eval e X.env) :: starEach [e2] X.env := by rfl) (hs2 : starEach [e2] X.env = (false, eval e2 X.env) :: starEach [] X.env := by rfl) (hpl : (backTo pos (starEach [e2] X.env)).any (·.1) = false := by rfl) :
    PiC X (.Tuple elts kk tpos) (.Call (.Name "zip" p) [e, e2] [] pos) ρ (List.zipWith (fun a b => T.tup [a, b]) ss us) := PiC.of (RZ.pi_zipA hg hm (pa_cons pe_g (pa_cons pe_g pa_nil hs2) hs) hs hpl) fun σ H C B st => g_useW h st fun x H1 s1 q1 w1 => g_useW h2 (st.mono s1) fun y H2 s2 q2 w2 => by
  obtain ⟨a, xs, rfl, hsx, hmx⟩ := q1
  obtain ⟨b, ys, rfl, hsy, hmy⟩ := q2
  have l1 := hmx.length
  have l2 := hmy.length
  have c1 := s2.seq hsx
  have m1 := hmx.mono s2
  refine ⟨a, b, xs, ys, rfl, .inl ⟨c1, hsy, s1.trans s2, ?_⟩⟩
  exact itok_pair (n := xs.length) (w1.lst hsx) (walk_zip (by omega)) (fun H s => ⟨s.seq c1, s.seq hsy⟩) (fun i _ v hv => m1.getv hv) (fun i _ v hv => hmy.getv hv) (by omega) (by omega) (by rw [List.length_zipWith]; omega)
end
/-- what the law compares -/
def A4.sm : A4 → Prop
  | .t (.tuf _) => False
  | .d _ => False
  | _ => True
mutual
def T.smT : T → Prop
  | .tuf _ => False
  | .tup ts => T.smTs ts
  | .lst ts => T.smTs ts
  | _ => True
def T.smTs : List T → Prop
  | [] => True
  | t :: ts => t.smT ∧ T.smTs ts
end
def A4.smA : A4 → Prop
  | .t x => x.smT
  | .s ts => T.smTs ts
  | .d _ => False
theorem smTs_mem : ∀ {ts : List T}, T.smTs ts → ∀ t ∈ ts, t.smT
  | t :: ts, h, u, hu => by
    simp only [T.smTs] at h
    rcases List.mem_cons.mp hu with e | hu
    · rw [e]; exact h.1
    · exact smTs_mem h.2 u hu
theorem ds_depth : ∀ {ts : List T} {n : Nat}, PyData.depthAll (T.ds ts) ≤ n → ∀ t ∈ ts, t.d.depth ≤ n
  | t :: ts, n, h, u, hu => by
    simp only [T.ds, PyData.depthAll] at h
    rcases List.mem_cons.mp hu with e | hu
    · rw [e]; exact Nat.le_trans (Nat.le_max_left _ _) h
    · exact ds_depth (Nat.le_trans (Nat.le_max_right _ _) h) u hu
theorem zip_same (ts : List T) : List.zipWith (fun a b => T.tup [a, b]) ts ts = ts.map fun t => T.tup [t, t] := by
  induction ts with
  | nil => rfl
  | cons t ts ih => rw [List.zipWith_cons_cons, ih]; rfl
section
variable {P : Program} {w : World} {K : PySem.W.Frag} {mg : Str → Option Value} {base : Heap}
def r_same (n : Nat) (as : List A4) (r : A4) : Prop := ∃ x : A4, x.smA ∧ x.dt.depth ≤ n ∧ as = [x, x] ∧ r = .t (.bl true)
theorem same_step (E : E9 K mg) {k n : Nat} (G0 : ∀ m, n = m + 1 → Ok9 P w base k E.f_l_same (r_same m)) : Ok9 P w base (k + 1) E.f_l_same (r_same n) := ok9 sc_l_same fun cdv A outer s H Ex as r hr hl h => by
  obtain ⟨x, hx, hd, rfl, rfl⟩ := h
  cases x with
  | d kvs => exact hx.elim
  | s ts =>
    have hsm : T.smTs ts := by simpa [A4.smA] using hx
    obtain ⟨m, rfl⟩ : ∃ m, n = m + 1 := by
      cases n with
      | zero => simp [A4.dt, T.d, PyData.depth] at hd
      | succ m => exact ⟨m, rfl⟩
    have G := G0 m rfl
    have hdp : PyData.depthAll (T.ds ts) ≤ m := by simpa [A4.dt, PyData.depth] using hd
    refine ru_if (k := true) (t_val (Py.eq (y_isi2 (T1 := "list") (T2 := "tuple") (a := true) (b := false) (x := (.s ts)) (yl 1) (by show kitB "list" "list" = _; decide +kernel) (by show kitB "list" "tuple" = _; decide +kernel) (by decide +kernel) (by decide +kernel) E.b_isinstance E.b_list E.b_tuple) rfl)) (fun _ => ?_) (fun z => nomatch z)
    refine ru_skip (Pt.eq (t_or (t_ne (t := .bl true) (u := .bl true) (y_isi (T9 := "list") (x := (.s ts)) (yl 0) (by show kitB "list" "list" = _; decide +kernel) (by decide +kernel) E.b_isinstance E.b_list) (y_isi (T9 := "list") (x := (.s ts)) (yl 1) (by show kitB "list" "list" = _; decide +kernel) (by decide +kernel) E.b_isinstance E.b_list)) fun _ => t_ne (t := .bl false) (u := .bl false) (y_isi (T9 := "tuple") (x := (.s ts)) (yl 0) (by show kitB "list" "tuple" = _; decide +kernel) (by decide +kernel) E.b_isinstance E.b_tuple) (y_isi (T9 := "tuple") (x := (.s ts)) (yl 1) (by show kitB "list" "tuple" = _; decide +kernel) (by decide +kernel) E.b_isinstance E.b_tuple)) (by simp)) ?_
    refine ru_ret (x := .t (.bl true)) (y_and (k := true) (Py.eq (y_eq (y_lenL (yl 0) E.b_len) (y_lenL (yl 1) E.b_len)) (by simp)) (fun _ => ?_) (fun z => nomatch z)) rfl
    refine Py.eq (y_all (bs := ts.map fun _ => true) rfl (PyN.arg ?_) E.b_all) (by simp)
    refine PyL.eq (y_lm (own := [("_law_mine_so", 2), ("_law_own", 3)]) ts (fun t => T.tup [t, t]) (fun _ => .bl true) [2, 3] rfl sc_l_same.nd (PiC.eq (i_zipL (yl 0) (yl 1) rfl E.b_zip) (zip_same ts)) (blkOk_by (N := n_l_same) (sc := defScope s_l_same) (by decide +kernel)) (by decide)
      fun t ht => ⟨_, fun s H C cl fp => ⟨g_tup rfl (gs_cons (g_name 2 sc_l_same.nd) (gs_cons (g_name 3 sc_l_same.nd) gs_nil)), y_callT (f := E.f_l_same) G hr (a_cons (yv 2) (a1 (yv 3))) ⟨.t t, smTs_mem hsm t ht, ds_depth hdp t ht, rfl, rfl⟩⟩⟩) ?_
    rw [List.map_map]
    rfl
  | t x =>
    cases x with
    | tuf xs => simp [A4.smA, T.smT] at hx
    | tup ts =>
      have hsm : T.smTs ts := by simpa [A4.smA, T.smT] using hx
      obtain ⟨m, rfl⟩ : ∃ m, n = m + 1 := by
        cases n with
        | zero => simp [A4.dt, T.d, PyData.depth] at hd
        | succ m => exact ⟨m, rfl⟩
      have G := G0 m rfl
      have hdp : PyData.depthAll (T.ds ts) ≤ m := by simpa [A4.dt, T.d, PyData.depth] using hd
      refine ru_if (k := true) (t_val (Py.eq (y_isi2 (T1 := "list") (T2 := "tuple") (a := false) (b := true) (x := (.t (.tup ts))) (yv 1) (by show kitB "tuple" "list" = _; decide +kernel) (by show kitB "tuple" "tuple" = _; decide +kernel) (by decide +kernel) (by decide +kernel) E.b_isinstance E.b_list E.b_tuple) rfl)) (fun _ => ?_) (fun z => nomatch z)
      refine ru_skip (Pt.eq (t_or (t_ne (t := .bl false) (u := .bl false) (y_isi (T9 := "list") (x := (.t (.tup ts))) (yv 0) (by show kitB "tuple" "list" = _; decide +kernel) (by decide +kernel) E.b_isinstance E.b_list) (y_isi (T9 := "list") (x := (.t (.tup ts))) (yv 1) (by show kitB "tuple" "list" = _; decide +kernel) (by decide +kernel) E.b_isinstance E.b_list)) fun _ => t_ne (t := .bl true) (u := .bl true) (y_isi (T9 := "tuple") (x := (.t (.tup ts))) (yv 0) (by show kitB "tuple" "tuple" = _; decide +kernel) (by decide +kernel) E.b_isinstance E.b_tuple) (y_isi (T9 := "tuple") (x := (.t (.tup ts))) (yv 1) (by show kitB "tuple" "tuple" = _; decide +kernel) (by decide +kernel) E.b_isinstance E.b_tuple)) (by simp)) ?_
      refine ru_ret (x := .t (.bl true)) (y_and (k := true) (Py.eq (y_eq (y_len (yv 0) E.b_len) (y_len (yv 1) E.b_len)) (by simp)) (fun _ => ?_) (fun z => nomatch z)) rfl
      refine Py.eq (y_all (bs := ts.map fun _ => true) rfl (PyN.arg ?_) E.b_all) (by simp)
      refine PyL.eq (y_lm (own := [("_law_mine_so", 2), ("_law_own", 3)]) ts (fun t => T.tup [t, t]) (fun _ => .bl true) [2, 3] rfl sc_l_same.nd (PiC.eq (i_zipT (yv 0) (yv 1) rfl E.b_zip).c (zip_same ts)) (blkOk_by (N := n_l_same) (sc := defScope s_l_same) (by decide +kernel)) (by decide)
        fun t ht => ⟨_, fun s H C cl fp => ⟨g_tup rfl (gs_cons (g_name 2 sc_l_same.nd) (gs_cons (g_name 3 sc_l_same.nd) gs_nil)), y_callT (f := E.f_l_same) G hr (a_cons (yv 2) (a1 (yv 3))) ⟨.t t, smTs_mem hsm t ht, ds_depth hdp t ht, rfl, rfl⟩⟩⟩) ?_
      rw [List.map_map]
      rfl
    | lst ts =>
      have hsm : T.smTs ts := by simpa [A4.smA, T.smT] using hx
      obtain ⟨m, rfl⟩ : ∃ m, n = m + 1 := by
        cases n with
        | zero => simp [A4.dt, T.d, PyData.depth] at hd
        | succ m => exact ⟨m, rfl⟩
      have G := G0 m rfl
      have hdp : PyData.depthAll (T.ds ts) ≤ m := by simpa [A4.dt, T.d, PyData.depth] using hd
      refine ru_if (k := true) (t_val (Py.eq (y_isi2 (T1 := "list") (T2 := "tuple") (a := true) (b := false) (x := (.t (.lst ts))) (yv 1) (by show kitB "list" "list" = _; decide +kernel) (by show kitB "list" "tuple" = _; decide +kernel) (by decide +kernel) (by decide +kernel) E.b_isinstance E.b_list E.b_tuple) rfl)) (fun _ => ?_) (fun z => nomatch z)
      refine ru_skip (Pt.eq (t_or (t_ne (t := .bl true) (u := .bl true) (y_isi (T9 := "list") (x := (.t (.lst ts))) (yv 0) (by show kitB "list" "list" = _; decide +kernel) (by decide +kernel) E.b_isinstance E.b_list) (y_isi (T9 := "list") (x := (.t (.lst ts))) (yv 1) (by show kitB "list" "list" = _; decide +kernel) (by decide +kernel) E.b_isinstance E.b_list)) fun _ => t_ne (t := .bl false) (u := .bl false) (y_isi (T9 := "tuple") (x := (.t (.lst ts))) (yv 0) (by show kitB "list" "tuple" = _; decide +kernel) (by decide +kernel) E.b_isinstance E.b_tuple) (y_isi (T9 := "tuple") (x := (.t (.lst ts))) (yv 1) (by show kitB "list" "tuple" = _; decide +kernel) (by decide +kernel) E.b_isinstance E.b_tuple)) (by simp)) ?_
      refine ru_ret (x := .t (.bl true)) (y_and (k := true) (Py.eq (y_eq (y_lenL (yv 0).ls E.b_len) (y_lenL (yv 1).ls E.b_len)) (by simp)) (fun _ => ?_) (fun z => nomatch z)) rfl
      refine Py.eq (y_all (bs := ts.map fun _ => true) rfl (PyN.arg ?_) E.b_all) (by simp)
      refine PyL.eq (y_lm (own := [("_law_mine_so", 2), ("_law_own", 3)]) ts (fun t => T.tup [t, t]) (fun _ => .bl true) [2, 3] rfl sc_l_same.nd (PiC.eq (i_zipL (yv 0).ls (yv 1).ls rfl E.b_zip) (zip_same ts)) (blkOk_by (N := n_l_same) (sc := defScope s_l_same) (by decide +kernel)) (by decide)
        fun t ht => ⟨_, fun s H C cl fp => ⟨g_tup rfl (gs_cons (g_name 2 sc_l_same.nd) (gs_cons (g_name 3 sc_l_same.nd) gs_nil)), y_callT (f := E.f_l_same) G hr (a_cons (yv 2) (a1 (yv 3))) ⟨.t t, smTs_mem hsm t ht, ds_depth hdp t ht, rfl, rfl⟩⟩⟩) ?_
      rw [List.map_map]
      rfl
    | non =>
      refine ru_if (k := false) (t_val (Py.eq (y_isi2 (T1 := "list") (T2 := "tuple") (a := false) (b := false) (x := .t .non) (yv 1) (by show kitB "NoneType" "list" = _; decide +kernel) (by show kitB "NoneType" "tuple" = _; decide +kernel) (by decide +kernel) (by decide +kernel) E.b_isinstance E.b_list E.b_tuple) rfl)) (fun z => nomatch z) (fun _ => ru_end ?_)
      refine ru_if (k := true) (Pt.eq (t_or (t_isN (t := .non) (k := true) (yv 1) (fun _ _ _ h => by rw [Im.non_eq h]; rfl)) fun _ => t_val (y_isi2 (T1 := "bool") (T2 := "str") (a := false) (b := false) (x := .t .non) (yv 1) (by show kitB "NoneType" "bool" = _; decide +kernel) (by show kitB "NoneType" "str" = _; decide +kernel) (by decide +kernel) (by decide +kernel) E.b_isinstance E.b_bool E.b_str)) (by decide)) (fun _ => ?_) (fun z => nomatch z)
      refine ru_ret (x := .t (.bl true)) (Py.eq (y_and3 (k := true) (l := true) (m := true) (Py.eq (y_eq (t := .non) (u := .non) (yv 0) (yv 1)) (by simp)) (fun _ => Py.eq (y_eq (t := .bl false) (u := .bl false) (y_isi (T9 := "bool") (x := .t .non) (yv 0) (by show kitB "NoneType" "bool" = _; decide +kernel) (by decide +kernel) E.b_isinstance E.b_bool) (y_isi (T9 := "bool") (x := .t .non) (yv 1) (by show kitB "NoneType" "bool" = _; decide +kernel) (by decide +kernel) E.b_isinstance E.b_bool)) (by simp)) (fun _ _ => Py.eq (y_eq (t := .bl true) (u := .bl true) (y_isN (t := .non) (k := true) (yv 0) (fun _ _ _ h => by rw [Im.non_eq h]; rfl)) (y_isN (t := .non) (k := true) (yv 1) (fun _ _ _ h => by rw [Im.non_eq h]; rfl))) (by simp))) rfl) rfl
    | bl b =>
      refine ru_if (k := false) (t_val (Py.eq (y_isi2 (T1 := "list") (T2 := "tuple") (a := false) (b := false) (x := .t (.bl b)) (yv 1) (by show kitB "bool" "list" = _; decide +kernel) (by show kitB "bool" "tuple" = _; decide +kernel) (by decide +kernel) (by decide +kernel) E.b_isinstance E.b_list E.b_tuple) rfl)) (fun z => nomatch z) (fun _ => ru_end ?_)
      refine ru_if (k := true) (Pt.eq (t_or (t_isN (t := (.bl b)) (k := false) (yv 1) (fun _ _ _ h => by rw [Im.bl_eq h]; rfl)) fun _ => t_val (y_isi2 (T1 := "bool") (T2 := "str") (a := true) (b := false) (x := .t (.bl b)) (yv 1) (by show kitB "bool" "bool" = _; decide +kernel) (by show kitB "bool" "str" = _; decide +kernel) (by decide +kernel) (by decide +kernel) E.b_isinstance E.b_bool E.b_str)) (by decide)) (fun _ => ?_) (fun z => nomatch z)
      refine ru_ret (x := .t (.bl true)) (Py.eq (y_and3 (k := true) (l := true) (m := true) (Py.eq (y_eq (t := (.bl b)) (u := (.bl b)) (yv 0) (yv 1)) (by simp)) (fun _ => Py.eq (y_eq (t := .bl true) (u := .bl true) (y_isi (T9 := "bool") (x := .t (.bl b)) (yv 0) (by show kitB "bool" "bool" = _; decide +kernel) (by decide +kernel) E.b_isinstance E.b_bool) (y_isi (T9 := "bool") (x := .t (.bl b)) (yv 1) (by show kitB "bool" "bool" = _; decide +kernel) (by decide +kernel) E.b_isinstance E.b_bool)) (by simp)) (fun _ _ => Py.eq (y_eq (t := .bl false) (u := .bl false) (y_isN (t := (.bl b)) (k := false) (yv 0) (fun _ _ _ h => by rw [Im.bl_eq h]; rfl)) (y_isN (t := (.bl b)) (k := false) (yv 1) (fun _ _ _ h => by rw [Im.bl_eq h]; rfl))) (by simp))) rfl) rfl
    | str z =>
      refine ru_if (k := false) (t_val (Py.eq (y_isi2 (T1 := "list") (T2 := "tuple") (a := false) (b := false) (x := .t (.str z)) (yv 1) (by show kitB "str" "list" = _; decide +kernel) (by show kitB "str" "tuple" = _; decide +kernel) (by decide +kernel) (by decide +kernel) E.b_isinstance E.b_list E.b_tuple) rfl)) (fun z => nomatch z) (fun _ => ru_end ?_)
      refine ru_if (k := true) (Pt.eq (t_or (t_isN (t := (.str z)) (k := false) (yv 1) (fun _ _ _ h => by rw [Im.str_eq h]; rfl)) fun _ => t_val (y_isi2 (T1 := "bool") (T2 := "str") (a := false) (b := true) (x := .t (.str z)) (yv 1) (by show kitB "str" "bool" = _; decide +kernel) (by show kitB "str" "str" = _; decide +kernel) (by decide +kernel) (by decide +kernel) E.b_isinstance E.b_bool E.b_str)) (by decide)) (fun _ => ?_) (fun z => nomatch z)
      refine ru_ret (x := .t (.bl true)) (Py.eq (y_and3 (k := true) (l := true) (m := true) (Py.eq (y_eq (t := (.str z)) (u := (.str z)) (yv 0) (yv 1)) (by simp)) (fun _ => Py.eq (y_eq (t := .bl false) (u := .bl false) (y_isi (T9 := "bool") (x := .t (.str z)) (yv 0) (by show kitB "str" "bool" = _; decide +kernel) (by decide +kernel) E.b_isinstance E.b_bool) (y_isi (T9 := "bool") (x := .t (.str z)) (yv 1) (by show kitB "str" "bool" = _; decide +kernel) (by decide +kernel) E.b_isinstance E.b_bool)) (by simp)) (fun _ _ => Py.eq (y_eq (t := .bl false) (u := .bl false) (y_isN (t := (.str z)) (k := false) (yv 0) (fun _ _ _ h => by rw [Im.str_eq h]; rfl)) (y_isN (t := (.str z)) (k := false) (yv 1) (fun _ _ _ h => by rw [Im.str_eq h]; rfl))) (by simp))) rfl) rfl
    | int i =>
      refine ru_if (k := false) (t_val (Py.eq (y_isi2 (T1 := "list") (T2 := "tuple") (a := false) (b := false) (x := .t (.int i)) (yv 1) (by show kitB "int" "list" = _; decide +kernel) (by show kitB "int" "tuple" = _; decide +kernel) (by decide +kernel) (by decide +kernel) E.b_isinstance E.b_list E.b_tuple) rfl)) (fun z => nomatch z) (fun _ => ru_end ?_)
      refine ru_if (k := false) (Pt.eq (t_or (t_isN (t := .int i) (k := false) (yv 1) (fun _ _ _ h => by rw [Im.int_eq h]; rfl)) fun _ => t_val (y_isi2 (T1 := "bool") (T2 := "str") (a := false) (b := false) (x := .t (.int i)) (yv 1) (by show kitB "int" "bool" = _; decide +kernel) (by show kitB "int" "str" = _; decide +kernel) (by decide +kernel) (by decide +kernel) E.b_isinstance E.b_bool E.b_str)) (by decide)) (fun z => nomatch z) (fun _ => ru_end ?_)
      refine ru_ret (x := .t (.bl true)) (Py.eq (y_and3 (k := true) (l := true) (m := true) (y_isi (T9 := "int") (x := .t (.int i)) (yv 0) (by show kitB "int" "int" = _; decide +kernel) (by decide +kernel) E.b_isinstance E.b_int) (fun _ => Py.eq (y_not (y_isi (T9 := "bool") (b := false) (x := .t (.int i)) (yv 0) (by show kitB "int" "bool" = _; decide +kernel) (by decide +kernel) E.b_isinstance E.b_bool)) rfl) (fun _ _ => Py.eq (y_eq (t := .int i) (u := .int i) (yv 0) (yv 1)) (by simp))) rfl) rfl
theorem ok_same (E : E9 K mg) : ∀ n, Ok9 P w base (n + 1) E.f_l_same (r_same n)
  | 0 => same_step E fun m h => nomatch h
  | n + 1 => same_step E fun m h => by
    have : n = m := by omega
    subst this
    exact ok_same E n
end
end Nine
set_option maxHeartbeats 4000000
/-! K9L4: max of a tuple; the law's timings, walked. -/
namespace Nine
open PySem PySem.Spec PyProof.Rows L2
theorem max_cast : ∀ (l : List Nat) (m : Nat), (l.map fun n : Nat => (n : Int)).foldl max (m : Int) = ((l.foldl max m : Nat) : Int)
  | [], m => rfl
  | n :: l, m => by
    rw [List.map_cons, List.foldl_cons, List.foldl_cons, ← max_cast l (max m n)]
    congr 1
    omega
section
variable {X : Cx} {e : Expr} {ρ : List Sl} {pos p : Pos}
theorem call_maxT (hc : X.calm = true) (hu : X.A.units + 64 < cLine) : CallR X (.builtin "max") (fun vs H Q => ∃ (a : Addr) (ns : List Nat), vs = [V.ref a] ∧ SqT X.K H a (ns.map fun n : Nat => V.int (n : Int)) ∧ ns ≠ [] ∧ Q (.int (maxL ns : Nat)) H) := by
  intro pins s σ H vs us Q I r h
  obtain ⟨a, ns, rfl, hs, hne, q⟩ := h
  obtain ⟨its, rv, p, hz⟩ := I.tuple hs
  rw [Vals.ref1 r]
  cases ns with
  | nil => exact absurd rfl hne
  | cons n ns =>
    have dp : ∀ l : List Nat, DpAll X.K H (l.map fun n : Nat => V.int (n : Int)) ((l.map fun n : Nat => (n : Int)).map PyData.int) := fun l => by
      induction l with
      | nil => exact .nil
      | cons x l ih => exact .cons (.int _) ih
    obtain ⟨as, hr⟩ := Dp.readsAll I _ _ _ (dp (n :: ns)) rv
    rw [List.map_cons, List.map_cons] at hr
    have dz : ∀ l : List Int, PyData.depthAll (l.map PyData.int) = 0 := fun l => by
      induction l with
      | nil => rfl
      | cons x l ih => rw [List.map_cons]; simp only [PyData.depthAll, PyData.depth]; rw [ih]; rfl
    refine W.max_tuple_data (x := .int (n : Int)) (xs := (ns.map fun n : Nat => (n : Int)).map PyData.int) (I.ok.hd hc) (show s.heap.IsTuple a its.toArray from p) (show ReadsAll s.heap its.toArray.toList _ as from (by rw [show its.toArray.toList = its by simp]; exact hr)) ⟨fun x hx y hy => ?_, fun x hx => ?_⟩ ?_ fun i v h' tk bs _ rd hk => ?_
    · have e : ∀ z ∈ PyData.int (n : Int) :: (ns.map fun n : Nat => (n : Int)).map PyData.int, ∃ k, z = .int k := fun z hz => by
        rcases List.mem_cons.mp hz with z1 | z1
        · exact ⟨_, z1⟩
        · obtain ⟨k, _, rfl⟩ := List.mem_map.mp z1
          exact ⟨k, rfl⟩
      obtain ⟨k1, rfl⟩ := e x hx
      obtain ⟨k2, rfl⟩ := e y hy
      rfl
    · rcases List.mem_cons.mp hx with z1 | z1
      · rw [z1]; exact fun z => nomatch z
      · obtain ⟨k, _, rfl⟩ := List.mem_map.mp z1
        exact fun z => nomatch z
    · simp only [PyData.depthAll, PyData.depth]
      rw [dz]
      simp only [Nat.max_self]
      omega
    · rw [W.maxD_ints, max_cast] at rd
      have hv : ∃ t, v = .int ((ns.foldl max n : Nat) : Int) t := by cases rd; exact ⟨_, rfl⟩
      have em : maxL (n :: ns) = ns.foldl max n := by unfold maxL; rw [List.foldl_cons]; simp
      rw [em] at q
      exact ⟨.int ((ns.foldl max n : Nat) : Int), H, I.kept (t' := tk) hk, hv, q⟩
theorem y_maxT {ns : List Nat} (hc : X.calm = true) (hu : X.A.units + 64 < cLine) (h : Py X e ρ (natsT ns)) (hne : ns ≠ []) (hm : X.mg "max" = none) (hg : Gl X "max" := by rfl) (he : starEach [e] X.env = (false, eval e X.env) :: starEach [] X.env := by rfl) (hpl : (backTo pos (starEach [] X.env)).any (·.1) = false := by rfl) : Py X (.Call (.Name "max" p) [e] [] pos) ρ (natT (maxL ns)) :=
  y_bi (call_maxT hc hu) hm (by decide +kernel) (a1 h he) (fun H vs H1 Q s1 q1 q => by
    obtain ⟨v, rfl, h1⟩ := args1 q1
    obtain ⟨a, xs, rfl, hs, ha⟩ := Im.tup_eq (ts := ns.map natT) h1
    have e1 : ns.map natT = (ns.map fun n : Nat => (n : Int)).map T.int := by rw [List.map_map]; rfl
    rw [e1] at ha
    rw [ha.ints, List.map_map] at hs
    exact ⟨a, ns, rfl, hs, hne, q _ _ s1 (.int _)⟩) hg (by decide) (by decide) he hpl
end
/-- all timings -/
def tmStep (found : List (List Nat)) (d : Dev) : List (List Nat) := found.foldl (fun late row => late ++ d.tries.map fun n => row ++ [n]) []
def timL (fl : Fl) : List (List Nat) := fl.foldl tmStep [[]]
theorem late_len {d : Dev} : ∀ (l : List (List Nat)) (late : List (List Nat)), (l.foldl (fun late row => late ++ d.tries.map fun n => row ++ [n]) late).length = late.length + d.tries.length * l.length
  | [], late => by simp
  | r :: l, late => by
    rw [List.foldl_cons, late_len l, List.length_append, List.length_map, List.length_cons, Nat.mul_add, Nat.mul_one]
    omega
theorem late_mem {d : Dev} {k : Nat} : ∀ (l : List (List Nat)) (late : List (List Nat)), (∀ r ∈ l, r.length = k) → (∀ r ∈ late, r.length = k + 1) → ∀ r ∈ l.foldl (fun late row => late ++ d.tries.map fun n => row ++ [n]) late, r.length = k + 1
  | [], late, _, h => h
  | r :: l, late, hl, h => by
    rw [List.foldl_cons]
    refine late_mem l _ (fun x hx => hl x (List.mem_cons_of_mem _ hx)) fun x hx => ?_
    rcases List.mem_append.mp hx with hx | hx
    · exact h x hx
    · obtain ⟨n, _, rfl⟩ := List.mem_map.mp hx
      rw [List.length_append, hl r List.mem_cons_self, List.length_singleton]
theorem tim_ok : ∀ (fl : Fl) (found : List (List Nat)) (k b : Nat), (∀ d ∈ fl, d.tries.length ≤ 4) → (∀ r ∈ found, r.length = k) → found.length ≤ b → (∀ r ∈ fl.foldl tmStep found, r.length = k + fl.length) ∧ (fl.foldl tmStep found).length ≤ b * 4 ^ fl.length
  | [], found, k, b, _, h, hb => ⟨h, by simpa using hb⟩
  | d :: fl, found, k, b, ht, h, hb => by
    rw [List.foldl_cons]
    have h1 : ∀ r ∈ tmStep found d, r.length = k + 1 := late_mem found [] h fun _ z => nomatch z
    have h2 : (tmStep found d).length ≤ b * 4 := by
      unfold tmStep
      rw [late_len, List.length_nil, Nat.zero_add, Nat.mul_comm]
      exact Nat.mul_le_mul hb (ht d List.mem_cons_self)
    obtain ⟨a, c⟩ := tim_ok fl (tmStep found d) (k + 1) (b * 4) (fun x hx => ht x (List.mem_cons_of_mem _ hx)) h1 h2
    refine ⟨fun r hr => by rw [a r hr, List.length_cons]; omega, ?_⟩
    rw [List.length_cons, Nat.pow_succ]
    rw [Nat.mul_assoc] at c
    rw [Nat.mul_comm (4 ^ fl.length) 4]
    exact c
section
variable {P : Program} {w : World} {K : PySem.W.Frag} {mg : Str → Option Value} {base : Heap}
def r_l_timings (as : List A4) (r : A4) : Prop := ∃ fl : Fl, FlOk fl ∧ as = [.t (flT fl)] ∧ r = .s ((timL fl).map natsT)
theorem ok_l_timings (E : E9 K mg) {k : Nat} : Ok9 P w base (k + 1) E.f_l_timings r_l_timings := ok9 sc_l_timings fun cdv A outer s H Ex as r hr hl h => by
  obtain ⟨fl, o, rfl, rfl⟩ := h
  have hf := o.few
  -- fleet 0, found 1, own 2, late 3, row 4, now 5
  refine ru_set 1 (y := .s [natsT []]) sc_l_timings.nd (y_lst (b_cons (y_tup b_nil) b_nil)) ?_
  refine ru_fold fl Dev.t tmStep [[]] (fun f => [.val (flT fl), .own (f.map natsT), .no, .no, .no, .no]) rfl rfl (i_tup (yv 0)) (fun i d f hd hf2 => ⟨_, _, g_name 2 sc_l_timings.nd, ?_⟩) (fun _ => rfl) (ru_retOwn 1 rfl rfl)
  have hdm := List.mem_of_getElem? hd
  have hb := tim_ok (fl.take i) [[]] 0 1 (fun x hx => (o.tr x (List.mem_of_mem_take hx)).2) (by simp) (by simp)
  rw [← hf2] at hb
  have hi : i < fl.length := (List.getElem?_eq_some_iff.mp hd).1
  have htk : (fl.take i).length = i := by rw [List.length_take]; omega
  rw [htk, Nat.one_mul, Nat.zero_add] at hb
  have hfl : f.length ≤ 16384 := Nat.le_trans hb.2 (Nat.le_trans (Nat.pow_le_pow_right (by omega) (show i ≤ 7 by omega)) (by decide))
  have ht := (o.tr d hdm).2
  refine ru_set 3 (y := .s []) sc_l_timings.nd (y_lst b_nil) ?_
  refine ru_foldOwn 1 f natsT (fun late row => late ++ d.tries.map fun n => row ++ [n]) [] (fun late s1 => [.val (flT fl), s1, .val d.t, .own (late.map natsT), .no, .no]) rfl rfl rfl (fun j row late hrow hlate => ⟨_, _, g_name 4 sc_l_timings.nd, ?_⟩) (fun _ => rfl) (fun _ _ => rfl)
    (ru_move 1 3 sc_l_timings.nd (by decide) rfl (ru_forget 2 (ru_end rfl)))
  have hll : late.length ≤ 65536 := by
    rw [hlate, late_len, List.length_nil, Nat.zero_add, List.length_take]
    have : d.tries.length * min j f.length ≤ 4 * 16384 := Nat.mul_le_mul ht (by omega)
    omega
  have hrl : row.length ≤ 8 := by rw [hb.1 row (List.mem_of_getElem? hrow)]; omega
  refine ru_set 3 (y := .s ((late ++ d.tries.map fun n => row ++ [n]).map natsT)) sc_l_timings.nd ?q (ru_forget 4 (ru_end rfl))
  refine PyL.eq (y_catL (ts := late.map natsT) (us := (d.tries.map fun n => row ++ [n]).map natsT) (yo 3) (PyN.o ?_) ?_) (by rw [List.map_append])
  · refine PyL.eq (y_lm (own := [("_law_now", 5)]) d.tries natT (fun n => natsT (row ++ [n])) [5] rfl sc_l_timings.nd ((i_tup (y_fc 2 (yv 2))).c) (blkOk_by (N := n_l_timings) (sc := defScope s_l_timings) (by decide +kernel)) (by decide)
      fun n hn => ⟨_, fun s H C cl fp => ⟨g_name 5 sc_l_timings.nd, Py.eq (y_catT (ts := row.map natT) (us := [natT n]) (yv 4) (y_tup (b_cons (yv 5) b_nil)) (by simp; omega)) (by simp [natsT])⟩⟩) ?_
    rw [List.map_map]
    rfl
  · simp only [List.length_map]
    omega
end
end Nine
set_option maxHeartbeats 4000000
/-! K9P: the plain law of ROWs. -/
namespace Nine
open PySem PySem.Spec PyProof.Rows L2
/-- what is needed ahead of a move, the moves counted from the end -/
def nd (r : Rw) : Nat → List Str
  | 0 => r.want
  | d + 1 => if glAt r (r.mv.length - (d + 1)) ∈ nd r d then ((nd r d).filter fun c => !decide (c = glAt r (r.mv.length - (d + 1)))) ++ rdAt r (r.mv.length - (d + 1)) else nd r d
def needAt (r : Rw) (j : Nat) : List Str := nd r (r.mv.length - j)
/-- the move counts -/
def Cnt (r : Rw) (j : Nat) : Prop := glAt r j ∈ needAt r (j + 1)
theorem need_end (r : Rw) : needAt r r.mv.length = r.want := by unfold needAt; rw [Nat.sub_self]; rfl
theorem need_step {r : Rw} {j : Nat} (h : j < r.mv.length) : needAt r j = if glAt r j ∈ needAt r (j + 1) then ((needAt r (j + 1)).filter fun c => !decide (c = glAt r j)) ++ rdAt r j else needAt r (j + 1) := by
  have e : r.mv.length - j = (r.mv.length - (j + 1)) + 1 := by omega
  have e2 : r.mv.length - ((r.mv.length - (j + 1)) + 1) = j := by omega
  unfold needAt
  rw [e]
  show (if glAt r (r.mv.length - ((r.mv.length - (j + 1)) + 1)) ∈ nd r (r.mv.length - (j + 1)) then _ else _) = _
  rw [e2]
theorem need_mem {r : Rw} {j : Nat} (h : j < r.mv.length) (c : Str) : c ∈ needAt r j ↔ (Cnt r j ∧ c ∈ rdAt r j) ∨ (c ∈ needAt r (j + 1) ∧ c ≠ glAt r j) := by
  rw [need_step h]
  unfold Cnt
  by_cases hc : glAt r j ∈ needAt r (j + 1)
  · rw [if_pos hc, List.mem_append, List.mem_filter]
    simp only [Bool.not_eq_true', decide_eq_false_iff_not]
    constructor
    · rintro (h | h)
      · exact .inr h
      · exact .inl ⟨hc, h⟩
    · rintro (h | h)
      · exact .inr h.2
      · exact .inl h
  · rw [if_neg hc]
    constructor
    · intro hm
      exact .inr ⟨hm, fun e => hc (e ▸ hm)⟩
    · rintro (h | h)
      · exact absurd h.1 hc
      · exact h.1
/-- needed: read first by a move that counts, or wanted -/
theorem need_iff {r : Rw} {c : Str} : ∀ (d j : Nat), r.mv.length - j = d → j ≤ r.mv.length →
    (c ∈ needAt r j ↔ (∃ o, j ≤ o ∧ o < r.mv.length ∧ Cnt r o ∧ c ∈ rdAt r o ∧ ∀ i, j ≤ i → i < o → glAt r i ≠ c) ∨ (c ∈ r.want ∧ ∀ i, j ≤ i → i < r.mv.length → glAt r i ≠ c))
  | 0, j, hd, hj => by
    have e : j = r.mv.length := by omega
    subst e
    rw [need_end]
    constructor
    · intro h
      exact .inr ⟨h, fun i h1 h2 => absurd h2 (by omega)⟩
    · rintro (⟨o, h1, h2, _⟩ | h)
      · omega
      · exact h.1
  | d + 1, j, hd, hj => by
    have hlt : j < r.mv.length := by omega
    rw [need_mem hlt, need_iff d (j + 1) (by omega) (by omega)]
    constructor
    · rintro (⟨h1, h2⟩ | ⟨h, hne⟩)
      · exact .inl ⟨j, Nat.le_refl _, hlt, h1, h2, fun i a b => absurd b (by omega)⟩
      · rcases h with ⟨o, h1, h2, h3, h4, h5⟩ | ⟨h1, h2⟩
        · refine .inl ⟨o, by omega, h2, h3, h4, fun i a b => ?_⟩
          by_cases e : i = j
          · rw [e]; exact fun z => hne z.symm
          · exact h5 i (by omega) b
        · refine .inr ⟨h1, fun i a b => ?_⟩
          by_cases e : i = j
          · rw [e]; exact fun z => hne z.symm
          · exact h2 i (by omega) b
    · rintro (⟨o, h1, h2, h3, h4, h5⟩ | ⟨h1, h2⟩)
      · by_cases e : o = j
        · subst e; exact .inl ⟨h3, h4⟩
        · exact .inr ⟨.inl ⟨o, by omega, h2, h3, h4, fun i a b => h5 i (by omega) b⟩, fun z => h5 j (Nat.le_refl _) (by omega) z.symm⟩
      · exact .inr ⟨.inr ⟨h1, fun i a b => h2 i (by omega) b⟩, fun z => h2 j (Nat.le_refl _) hlt z.symm⟩
/-! ### the law's counting -/
theorem lc_run {r : Rw} : ∀ (d : Nat), d ≤ r.mv.length → ((((List.range r.mv.length).reverse).take d).foldl (lcStep r) (r.want, [])).1 = nd r d ∧ ∀ n, n ∈ ((((List.range r.mv.length).reverse).take d).foldl (lcStep r) (r.want, [])).2 ↔ r.mv.length - d ≤ n ∧ n < r.mv.length ∧ Cnt r n
  | 0, _ => ⟨rfl, fun n => by simp; omega⟩
  | d + 1, h => by
    obtain ⟨h1, h2⟩ := lc_run (r := r) d (by omega)
    have hx : ((List.range r.mv.length).reverse)[d]? = some (r.mv.length - (d + 1)) := by
      rw [List.getElem?_reverse (by rw [List.length_range]; omega), List.length_range, List.getElem?_range (by omega)]
      congr 1
      omega
    rw [take_snoc hx, List.foldl_append]
    show (lcStep r _ _).1 = _ ∧ ∀ n, n ∈ (lcStep r _ _).2 ↔ _
    generalize hst : (((List.range r.mv.length).reverse).take d).foldl (lcStep r) (r.want, []) = st at h1 h2
    have hc : glAt r (r.mv.length - (d + 1)) ∈ st.1 ↔ Cnt r (r.mv.length - (d + 1)) := by
      unfold Cnt needAt
      rw [h1, show r.mv.length - (r.mv.length - (d + 1) + 1) = d by omega]
    unfold lcStep
    by_cases hm : glAt r (r.mv.length - (d + 1)) ∈ st.1
    · rw [if_pos hm]
      refine ⟨?_, fun n => ?_⟩
      · show _ = nd r (d + 1)
        unfold nd
        rw [← h1, if_pos hm]
      · show n ∈ st.2 ++ [r.mv.length - (d + 1)] ↔ _
        rw [List.mem_append, List.mem_singleton, h2]
        constructor
        · rintro (h3 | h3)
          · exact ⟨by omega, h3.2⟩
          · subst h3; exact ⟨Nat.le_refl _, by omega, hc.mp hm⟩
        · rintro ⟨h3, h4, h5⟩
          by_cases e : n = r.mv.length - (d + 1)
          · exact .inr e
          · exact .inl ⟨by omega, h4, h5⟩
    · rw [if_neg hm]
      refine ⟨?_, fun n => ?_⟩
      · show st.1 = nd r (d + 1)
        unfold nd
        rw [← h1, if_neg hm]
      · rw [h2]
        constructor
        · rintro ⟨h3, h4⟩
          exact ⟨by omega, h4⟩
        · rintro ⟨h3, h4, h5⟩
          refine ⟨?_, h4, h5⟩
          by_cases e : n = r.mv.length - (d + 1)
          · subst e; exact absurd (hc.mpr h5) hm
          · omega
theorem lcL_mem {r : Rw} {n : Nat} : n ∈ lcL r ↔ n < r.mv.length ∧ Cnt r n := by
  unfold lcL lcRun
  rw [mem_ordU lin_nat]
  have := (lc_run (r := r) r.mv.length (Nat.le_refl _)).2 n
  rw [List.take_of_length_le (by rw [List.length_reverse, List.length_range]; exact Nat.le_refl _)] at this
  rw [this]
  constructor
  · rintro ⟨_, h⟩; exact h
  · intro h; exact ⟨by omega, h⟩
/-! ### the program's counting -/
theorem last_filter {p : Nat → Bool} {m n : Nat} : ((List.range m).filter p).getLast? = some n ↔ n < m ∧ p n = true ∧ ∀ i, n < i → i < m → p i = false := by
  induction m with
  | zero => simp
  | succ m ih =>
    rw [List.range_succ, List.filter_append]
    by_cases hp : p m = true
    · rw [List.filter_cons_of_pos hp, List.filter_nil, List.getLast?_append]
      simp only [List.getLast?_singleton, Option.some_or, Option.some.injEq]
      constructor
      · intro e; subst e; exact ⟨by omega, hp, fun i a b => absurd b (by omega)⟩
      · rintro ⟨a, b, c⟩
        by_cases e : m = n
        · exact e
        · have := c m (by omega) (by omega)
          rw [hp] at this; cases this
    · rw [List.filter_cons_of_neg hp, List.filter_nil, List.append_nil, ih]
      have hp' : p m = false := by simpa using hp
      constructor
      · rintro ⟨a, b, c⟩
        refine ⟨by omega, b, fun i x y => ?_⟩
        by_cases e : i = m
        · rw [e]; exact hp'
        · exact c i x (by omega)
      · rintro ⟨a, b, c⟩
        by_cases e : n = m
        · subst e; rw [hp'] at b; cases b
        · exact ⟨by omega, b, fun i x y => c i x (by omega)⟩
theorem writer_iff {r : Rw} {c : Str} {s n : Nat} (hs : s ≤ r.mv.length) : writerL r c s = some n ↔ n < s ∧ glAt r n = c ∧ ∀ i, n < i → i < s → glAt r i ≠ c := by
  unfold writerL writesL
  rw [List.filter_filter, last_filter]
  constructor
  · rintro ⟨a, b, d⟩
    simp only [Bool.and_eq_true, decide_eq_true_eq] at b
    refine ⟨b.1, b.2, fun i x y z => ?_⟩
    have := d i x (by omega)
    simp [y, z] at this
  · rintro ⟨a, b, d⟩
    refine ⟨by omega, by simp [a, b], fun i x y => ?_⟩
    by_cases e : i < s
    · simp [e, d i x e]
    · simp [e]
theorem kept_iff {r : Rw} {n : Nat} (h : n < r.mv.length) : keptB r n = true ↔ glAt r n ∈ r.want ∧ ∀ i, n < i → i < r.mv.length → glAt r i ≠ glAt r n := by
  unfold keptB
  rw [Bool.and_eq_true, decide_eq_true_eq, decide_eq_true_eq, writer_iff (Nat.le_refl _)]
  constructor
  · rintro ⟨a, _, _, d⟩; exact ⟨a, d⟩
  · rintro ⟨a, d⟩; exact ⟨a, h, rfl, d⟩
theorem user_iff {r : Rw} {n o : Nat} : o ∈ usersL r n ↔ n < o ∧ o < r.mv.length ∧ glAt r n ∈ rdAt r o ∧ ∀ i, n < i → i < o → glAt r i ≠ glAt r n := by
  unfold usersL
  rw [List.mem_filter, List.mem_range'_1, decide_eq_true_eq]
  unfold sourcesL
  constructor
  · rintro ⟨⟨h1, h2⟩, h3⟩
    obtain ⟨c, hc, e⟩ := List.mem_map.mp h3
    obtain ⟨a, b, d⟩ := (writer_iff (by omega)).mp e
    subst b
    exact ⟨a, by omega, hc, d⟩
  · rintro ⟨h1, h2, h3, h4⟩
    exact ⟨⟨by omega, by omega⟩, List.mem_map.mpr ⟨glAt r n, h3, (writer_iff (by omega)).mpr ⟨h1, rfl, h4⟩⟩⟩
theorem cnt_iff {r : Rw} {n : Nat} (h : n < r.mv.length) : Cnt r n ↔ keptB r n = true ∨ ∃ o ∈ usersL r n, Cnt r o := by
  unfold Cnt
  rw [need_iff (r.mv.length - (n + 1)) (n + 1) rfl (by omega), kept_iff h]
  constructor
  · rintro (⟨o, h1, h2, h3, h4, h5⟩ | ⟨h1, h2⟩)
    · exact .inr ⟨o, user_iff.mpr ⟨by omega, h2, h4, fun i a b => h5 i (by omega) b⟩, h3⟩
    · exact .inl ⟨h1, fun i a b => h2 i (by omega) b⟩
  · rintro (⟨h1, h2⟩ | ⟨o, ho, h3⟩)
    · exact .inr ⟨h1, fun i a b => h2 i (by omega) b⟩
    · obtain ⟨a, b, c, d⟩ := user_iff.mp ho
      exact .inl ⟨o, by omega, b, h3, c, fun i x y => d i (by omega) y⟩
theorem cnt_run {r : Rw} : ∀ (d : Nat), d ≤ r.mv.length → ∀ n, n ∈ (((List.range r.mv.length).reverse).take d).foldl (cntStep r) [] ↔ r.mv.length - d ≤ n ∧ n < r.mv.length ∧ Cnt r n
  | 0, _ => fun n => by simp; omega
  | d + 1, h => by
    have ih := cnt_run (r := r) d (by omega)
    have hx : ((List.range r.mv.length).reverse)[d]? = some (r.mv.length - (d + 1)) := by
      rw [List.getElem?_reverse (by rw [List.length_range]; omega), List.length_range, List.getElem?_range (by omega)]
      congr 1
      omega
    rw [take_snoc hx, List.foldl_append]
    show ∀ n, n ∈ cntStep r _ _ ↔ _
    generalize (((List.range r.mv.length).reverse).take d).foldl (cntStep r) [] = f at ih
    have hc : (keptB r (r.mv.length - (d + 1)) || (usersL r (r.mv.length - (d + 1))).any fun o => decide (o ∈ f)) = true ↔ Cnt r (r.mv.length - (d + 1)) := by
      rw [cnt_iff (by omega), Bool.or_eq_true, List.any_eq_true]
      constructor
      · rintro (h | ⟨o, h1, h2⟩)
        · exact .inl h
        · exact .inr ⟨o, h1, ((ih o).mp (of_decide_eq_true h2)).2.2⟩
      · rintro (h | ⟨o, h1, h2⟩)
        · exact .inl h
        · obtain ⟨a, b, _⟩ := user_iff.mp h1
          exact .inr ⟨o, h1, decide_eq_true ((ih o).mpr ⟨by omega, b, h2⟩)⟩
    intro n
    unfold cntStep
    by_cases hm : (keptB r (r.mv.length - (d + 1)) || (usersL r (r.mv.length - (d + 1))).any fun o => decide (o ∈ f)) = true
    · rw [if_pos hm, List.mem_append, List.mem_singleton, ih]
      constructor
      · rintro (h3 | h3)
        · exact ⟨by omega, h3.2⟩
        · subst h3; exact ⟨Nat.le_refl _, by omega, hc.mp hm⟩
      · rintro ⟨h3, h4, h5⟩
        by_cases e : n = r.mv.length - (d + 1)
        · exact .inr e
        · exact .inl ⟨by omega, h4, h5⟩
    · rw [if_neg hm, ih]
      constructor
      · rintro ⟨h3, h4⟩
        exact ⟨by omega, h4⟩
      · rintro ⟨h3, h4, h5⟩
        refine ⟨?_, h4, h5⟩
        by_cases e : n = r.mv.length - (d + 1)
        · subst e; exact absurd (hc.mpr h5) hm
        · omega
theorem cntL_mem {r : Rw} {n : Nat} : n ∈ cntL r ↔ n < r.mv.length ∧ Cnt r n := by
  unfold cntL
  rw [mem_ordU lin_nat]
  have := cnt_run (r := r) r.mv.length (Nat.le_refl _) n
  rw [List.take_of_length_le (by rw [List.length_reverse, List.length_range]; exact Nat.le_refl _)] at this
  rw [this]
  constructor
  · rintro ⟨_, h⟩; exact h
  · intro h; exact ⟨by omega, h⟩
theorem cnt_lc (r : Rw) : cntL r = lcL r := asc_uniq lin_nat (asc_ordU lin_nat) (asc_ordU lin_nat) fun z => cntL_mem.trans lcL_mem.symm
end Nine
set_option maxHeartbeats 4000000
/-! K9P2: hazards, the plain law. -/
namespace Nine
open PySem PySem.Spec PyProof.Rows L2
theorem fold_app {α β : Type} (g : α → List β) : ∀ (l : List α) (acc : List β), l.foldl (fun acc x => acc ++ g x) acc = acc ++ l.flatMap g
  | [], acc => by simp
  | x :: l, acc => by
    rw [List.foldl_cons, fold_app g l, List.flatMap_cons, List.append_assoc]
/-- the hazards of a stretch -/
def latL (r : Rw) (hi : Nat) (n : Nat) (c : Str) : List Hz := ((List.range' n (hi - n)).filter fun l => decide (glAt r l = c)).map fun l => (n, c, l)
def blkL (r : Rw) (lo hi : Nat) : List Hz := (List.range' lo (hi - lo)).flatMap fun n => (lrdL r lo n).flatMap fun c => latL r hi n c
def allHz (r : Rw) : List Hz := (List.range ((spotsL r).length - 1)).flatMap fun p => blkL r ((spotsL r).getD p 0) ((spotsL r).getD (p + 1) 0)
theorem reads_flat (r : Rw) (lo hi : Nat) : readsFirstL r lo hi = (List.range' lo (hi - lo)).flatMap fun n => (lrdL r lo n).map fun c => (n, c) := by
  have e : ∀ f n, rfStep r lo f n = f ++ (lrdL r lo n).map fun c => (n, c) := fun f n => by
    unfold rfStep lrdL
    rw [cnt_lc]
    split
    · rfl
    · simp
  show (List.range' lo (hi - lo)).foldl (rfStep r lo) [] = _
  rw [show rfStep r lo = fun f n => f ++ (lrdL r lo n).map fun c => (n, c) from funext fun f => funext fun n => e f n, fold_app, List.nil_append]
theorem haz_all (r : Rw) : hazRaw r = allHz r := by
  have e : ∀ f s, hzSt r f s = f ++ blkL r s.1 s.2 := fun f s => by
    unfold hzSt
    rw [show hazStep r s.2 = fun f p => f ++ latL r s.2 p.1 p.2 from rfl, fold_app, reads_flat]
    congr 1
    unfold blkL
    rw [List.flatMap_assoc]
    congr 1
    funext n
    rw [List.flatMap_map]
  show (stretchesL r).foldl (hzSt r) [] = _
  rw [show hzSt r = fun f s => f ++ blkL r s.1 s.2 from funext fun f => funext fun s => e f s, fold_app, List.nil_append]
  unfold stretchesL allHz
  rw [List.flatMap_map]
theorem lh_all (r : Rw) : lhRaw r = allHz r := by
  have e : ∀ lo hi f k, lhK r lo hi f k = f ++ (lrdL r lo k).flatMap fun c => latL r hi k c := fun lo hi f k => by
    unfold lhK
    rw [show lhC r k hi = fun f c => f ++ latL r hi k c from rfl, fold_app]
  have e2 : ∀ f p, lhP r f p = f ++ blkL r ((spotsL r).getD p 0) ((spotsL r).getD (p + 1) 0) := fun f p => by
    unfold lhP
    rw [show lhK r ((spotsL r).getD p 0) ((spotsL r).getD (p + 1) 0) = fun f k => f ++ (lrdL r ((spotsL r).getD p 0) k).flatMap fun c => latL r ((spotsL r).getD (p + 1) 0) k c from funext fun f => funext fun k => e _ _ f k, fold_app]
    rfl
  unfold lhRaw
  rw [show lhP r = fun f p => f ++ blkL r ((spotsL r).getD p 0) ((spotsL r).getD (p + 1) 0) from funext fun f => funext fun p => e2 f p, fold_app, List.nil_append]
  rfl
/-- a hazard -/
def Haz (r : Rw) (a b n : Nat) (c : Str) (l : Nat) : Prop := a ≤ n ∧ n < b ∧ Cnt r n ∧ c ∈ rdAt r n ∧ (∀ i, a ≤ i → i < n → glAt r i ≠ c) ∧ n ≤ l ∧ l < b ∧ glAt r l = c
theorem blk_mem {r : Rw} {a b : Nat} (hb : b ≤ r.mv.length) {h : Hz} : h ∈ blkL r a b ↔ Haz r a b h.1 h.2.1 h.2.2 := by
  obtain ⟨n, c, l⟩ := h
  unfold blkL Haz
  dsimp only
  rw [List.mem_flatMap]
  constructor
  · rintro ⟨n', hn, h2⟩
    obtain ⟨c', hc, h3⟩ := List.mem_flatMap.mp h2
    unfold latL at h3
    obtain ⟨l', hl, e⟩ := List.mem_map.mp h3
    have e1 : n' = n ∧ c' = c ∧ l' = l := by simpa using e
    obtain ⟨rfl, rfl, rfl⟩ := e1
    have hn2 := List.mem_range'_1.mp hn
    obtain ⟨hl1, hl2⟩ := List.mem_filter.mp hl
    have hl3 := List.mem_range'_1.mp hl1
    unfold lrdL at hc
    split at hc
    · rename_i hcnt
      obtain ⟨hc1, hc2⟩ := List.mem_filter.mp hc
      refine ⟨by omega, by omega, (lcL_mem.mp hcnt).2, hc1, fun i hi1 hi2 e => ?_, by omega, by omega, of_decide_eq_true hl2⟩
      have : c' ∈ (List.range' a (n' - a)).map (glAt r) := List.mem_map.mpr ⟨i, List.mem_range'_1.mpr ⟨hi1, by omega⟩, e⟩
      simp [this] at hc2
    · cases hc
  · rintro ⟨h1, h2, h3, h4, h5, h6, h7, h8⟩
    refine ⟨n, List.mem_range'_1.mpr ⟨h1, by omega⟩, List.mem_flatMap.mpr ⟨c, ?_, ?_⟩⟩
    · unfold lrdL
      rw [if_pos (lcL_mem.mpr ⟨by omega, h3⟩)]
      refine List.mem_filter.mpr ⟨h4, ?_⟩
      rw [Bool.not_eq_true', decide_eq_false_iff_not]
      intro hm
      obtain ⟨i, hi, e⟩ := List.mem_map.mp hm
      have := List.mem_range'_1.mp hi
      exact h5 i this.1 (by omega) e
    · exact List.mem_map.mpr ⟨l, List.mem_filter.mpr ⟨List.mem_range'_1.mpr ⟨h6, by omega⟩, decide_eq_true h8⟩, rfl⟩
theorem nodup_flat {α β : Type} {f : α → List β} : ∀ {l : List α}, (∀ x ∈ l, (f x).Nodup) → l.Pairwise (fun x y => ∀ a ∈ f x, a ∉ f y) → (l.flatMap f).Nodup
  | [], _, _ => by simp
  | x :: l, h, hp => by
    obtain ⟨h1, h2⟩ := List.pairwise_cons.mp hp
    rw [List.flatMap_cons]
    refine List.nodup_append.mpr ⟨h x List.mem_cons_self, nodup_flat (fun y hy => h y (List.mem_cons_of_mem _ hy)) h2, fun a ha b hb e => ?_⟩
    subst e
    obtain ⟨y, hy, hb⟩ := List.mem_flatMap.mp hb
    exact h1 y hy a ha hb
theorem nodup_mapI {α β : Type} {f : α → β} (inj : ∀ a b, f a = f b → a = b) {l : List α} (h : l.Nodup) : (l.map f).Nodup := List.pairwise_map.mpr (h.imp fun {a b} hne e => hne (inj a b e))
theorem range'_nodup (a n : Nat) : (List.range' a n).Nodup := List.nodup_range'
theorem blk_nodup {r : Rw} (o : r.Ok) {a b : Nat} (hb : b ≤ r.mv.length) : (blkL r a b).Nodup := by
  unfold blkL
  refine nodup_flat (fun n hn => ?_) ?_
  · have hn2 := List.mem_range'_1.mp hn
    have hrd := (o.mv _ (mv_mem (show n < r.mv.length by omega))).nd
    refine nodup_flat (fun c _ => nodup_mapI (fun a b e => by simpa using e) (List.Pairwise.filter _ (range'_nodup _ _))) ?_
    have : (lrdL r a n).Nodup := by
      unfold lrdL
      split
      · exact List.Pairwise.filter _ hrd
      · exact List.nodup_nil
    refine this.imp fun {x y} hne z hz hz2 => ?_
    obtain ⟨l1, _, e1⟩ := List.mem_map.mp hz
    obtain ⟨l2, _, e2⟩ := List.mem_map.mp hz2
    rw [← e2] at e1
    exact hne (by simp at e1; exact e1.1)
  · refine (range'_nodup _ _).imp fun {x y} hne z hz hz2 => ?_
    obtain ⟨c1, _, h1⟩ := List.mem_flatMap.mp hz
    obtain ⟨c2, _, h2⟩ := List.mem_flatMap.mp hz2
    obtain ⟨l1, _, e1⟩ := List.mem_map.mp h1
    obtain ⟨l2, _, e2⟩ := List.mem_map.mp h2
    rw [← e2] at e1
    exact hne (by simp at e1; exact e1.1)
theorem spots_mono {r : Rw} (o : r.Ok) {p q : Nat} (h : p ≤ q) (hq : q < (spotsL r).length) : (spotsL r).getD p 0 ≤ (spotsL r).getD q 0 := by
  have e1 : (spotsL r).getD p 0 = (spotsL r)[p]'(by omega) := by rw [List.getD_eq_getElem?_getD]; simp [show p < (spotsL r).length by omega]
  have e2 : (spotsL r).getD q 0 = (spotsL r)[q] := by rw [List.getD_eq_getElem?_getD]; simp [hq]
  rw [e1, e2]
  by_cases e : p = q
  · subst e; exact Nat.le_refl _
  · exact Nat.le_of_lt (List.pairwise_iff_getElem.mp (spots_asc o) p q (by omega) hq (by omega))
theorem all_nodup {r : Rw} (o : r.Ok) : (allHz r).Nodup := by
  unfold allHz
  refine nodup_flat (fun p hp => blk_nodup o (spots_at o (List.mem_range.mp hp)).2.2.2) ?_
  rw [List.pairwise_iff_getElem]
  intro i j hi hj hij z hz hz2
  rw [List.length_range] at hi hj
  rw [List.getElem_range] at hz hz2
  have h1 := (blk_mem (spots_at o hi).2.2.2).mp hz
  have h2 := (blk_mem (spots_at o hj).2.2.2).mp hz2
  have h3 := spots_mono o (show i + 1 ≤ j by omega) (by omega)
  have := h1.2.1
  have := h2.1
  omega
theorem flat_len {α β : Type} {f : α → List β} {k : Nat} : ∀ {l : List α}, (∀ x ∈ l, (f x).length ≤ k) → (l.flatMap f).length ≤ k * l.length
  | [], _ => by simp
  | x :: l, h => by
    rw [List.flatMap_cons, List.length_append, List.length_cons, Nat.mul_add, Nat.mul_one]
    have := flat_len (l := l) (f := f) fun y hy => h y (List.mem_cons_of_mem _ hy)
    have := h x List.mem_cons_self
    omega
theorem blk_len {r : Rw} (o : r.Ok) {a b : Nat} (hb : b ≤ r.mv.length) : (blkL r a b).length ≤ 8 * (b - a) := by
  have hlm := o.lm
  have := flat_len (k := 8) (l := List.range' a (b - a)) (f := fun n => (lrdL r a n).flatMap fun c => latL r b n c) fun n hn => by
    have hn2 := List.mem_range'_1.mp hn
    have h2 : (lrdL r a n).length ≤ 2 := by
      have h3 := (o.mv _ (mv_mem (show n < r.mv.length by omega))).lo
      unfold lrdL
      split
      · exact Nat.le_trans (List.length_filter_le _ _) h3
      · simp
    have := flat_len (k := 4) (l := lrdL r a n) (f := fun c => latL r b n c) fun c _ => by
      unfold latL
      rw [List.length_map]
      have := List.length_filter_le (fun l => decide (glAt r l = c)) (List.range' n (b - n))
      rw [List.length_range'] at this
      omega
    omega
  rw [List.length_range'] at this
  exact this
theorem all_len {r : Rw} (o : r.Ok) : (allHz r).length < 64 := by
  have hlm := o.lm
  have key : ∀ m, m ≤ (spotsL r).length - 1 → ((List.range m).flatMap fun p => blkL r ((spotsL r).getD p 0) ((spotsL r).getD (p + 1) 0)).length ≤ 8 * (spotsL r).getD m 0 := by
    intro m
    induction m with
    | zero => intro _; simp
    | succ m ih =>
      intro h
      rw [List.range_succ, List.flatMap_append, List.length_append]
      have h1 := ih (by omega)
      obtain ⟨_, _, h2, h3⟩ := spots_at o (show m < (spotsL r).length - 1 by omega)
      have h4 := blk_len o (a := (spotsL r).getD m 0) h3
      simp only [List.flatMap_cons, List.flatMap_nil, List.append_nil]
      omega
  have h1 := key _ (Nat.le_refl _)
  have h2 : (spotsL r).getD ((spotsL r).length - 1) 0 ≤ r.mv.length := by
    have hl : 2 ≤ (spotsL r).length := by unfold spotsL; simp
    exact spots_le o (by rw [List.getD_eq_getElem?_getD]; simp [show (spotsL r).length - 1 < (spotsL r).length by omega])
  unfold allHz
  omega
theorem haz_len {r : Rw} (o : r.Ok) : (hazRaw r).length < 64 := by rw [haz_all]; exact all_len o
theorem lh_nodup {r : Rw} (o : r.Ok) : (lhRaw r).Nodup := by rw [lh_all]; exact all_nodup o
theorem haz_lh (r : Rw) : hazL r = ordU ltH (lhRaw r) := by unfold hazL; rw [haz_all, lh_all]
end Nine
set_option maxHeartbeats 4000000
/-! K9P3: no hazard is: no single loss changes END. -/
namespace Nine
open PySem PySem.Spec PyProof.Rows L2
/-! ### marks -/
theorem spot_at {r : Rw} {p : Nat} (h : p < (spotsL r).length) : (spotsL r).getD p 0 = (spotsL r)[p] := by
  rw [List.getD_eq_getElem?_getD]; simp [h]
theorem mark_of {r : Rw} (o : r.Ok) {p k : Nat} (hp : p < (spotsL r).length - 1) (h1 : (spotsL r).getD p 0 ≤ k) (h2 : k < (spotsL r).getD (p + 1) 0) : markL r k = (spotsL r).getD p 0 := by
  have hm : markL r k ∈ (spotsL r).filter fun s => decide (s ≤ k) := maxL_mem (by
    intro z
    have : (0 : Nat) ∈ (spotsL r).filter fun s => decide (s ≤ k) := List.mem_filter.mpr ⟨by unfold spotsL; simp, by simp⟩
    rw [z] at this; cases this)
  obtain ⟨a, b⟩ := List.mem_filter.mp hm
  have b' := of_decide_eq_true b
  have h3 : (spotsL r).getD p 0 ≤ markL r k := maxL_le (List.mem_filter.mpr ⟨by rw [spot_at (show p < (spotsL r).length by omega)]; exact List.getElem_mem _, decide_eq_true h1⟩)
  obtain ⟨q, hq, e⟩ := List.mem_iff_getElem.mp a
  have hqp : q ≤ p := by
    by_cases hc : q ≤ p
    · exact hc
    · have := spots_mono o (show p + 1 ≤ q by omega) hq
      rw [spot_at hq, e] at this
      omega
  have := spots_mono o hqp (by omega)
  rw [spot_at hq, e] at this
  omega
theorem mark_ex {r : Rw} (o : r.Ok) {k : Nat} (hk : k < r.mv.length) : ∃ p, p < (spotsL r).length - 1 ∧ (spotsL r).getD p 0 ≤ k ∧ k < (spotsL r).getD (p + 1) 0 := by
  have hl : 2 ≤ (spotsL r).length := by unfold spotsL; simp
  have hlast : (spotsL r).getD ((spotsL r).length - 1) 0 = r.mv.length := by
    rw [spot_at (by omega)]
    simp [spotsL]
  have key : ∀ m, m ≤ (spotsL r).length - 1 → k < (spotsL r).getD m 0 → ∃ p, p < m ∧ (spotsL r).getD p 0 ≤ k ∧ k < (spotsL r).getD (p + 1) 0 := by
    intro m
    induction m with
    | zero => intro _ h; simp [spotsL] at h
    | succ m ih =>
      intro hm h
      by_cases hc : k < (spotsL r).getD m 0
      · obtain ⟨p, h1, h2⟩ := ih (by omega) hc
        exact ⟨p, by omega, h2⟩
      · exact ⟨m, by omega, by omega, h⟩
  exact key _ (Nat.le_refl _) (by rw [hlast]; exact hk)
/-! ### runs -/
abbrev runF (r : Rw) (l : List Nat) (h : Ct) : Ct := l.foldl (fun h n => stepF (mvAt r n) h) h
theorem step_ne {m : Mv} {h : Ct} {c : Str} (e : c ≠ m.gl) : stepF m h c = h c := by
  show (if c = m.gl then _ else h c) = _
  rw [if_neg e]
theorem step_gl {m : Mv} {h : Ct} : stepF m h m.gl = termF m h := by
  show (if m.gl = m.gl then _ else _) = _
  rw [if_pos rfl]
theorem run_ne {r : Rw} {c : Str} : ∀ (l : List Nat) (h : Ct), (∀ i ∈ l, glAt r i ≠ c) → runF r l h c = h c
  | [], h, _ => rfl
  | n :: l, h, hn => by
    show runF r l (stepF (mvAt r n) h) c = _
    rw [run_ne l _ fun i hi => hn i (List.mem_cons_of_mem _ hi), step_ne fun e => hn n List.mem_cons_self e.symm]
theorem term_eq {m : Mv} {h g : Ct} (hc : m.nm = "copy" → m.rd.length = 1) (e : ∀ c ∈ m.rd, h c = g c) : termF m h = termF m g := by
  unfold termF
  split
  · rename_i hcp
    have h1 := hc hcp
    have h0 : m.rd[0]? = some (m.rd.getD 0 "") := by rw [List.getD_eq_getElem?_getD]; simp [show 0 < m.rd.length by omega]
    exact e _ (List.mem_of_getElem? h0)
  · rw [List.map_congr_left e]
/-- what is needed tells END -/
theorem need_tells {r : Rw} (o : r.Ok) : ∀ (d j : Nat) (h g : Ct), r.mv.length - j = d → j ≤ r.mv.length → (∀ c ∈ needAt r j, h c = g c) → ∀ c ∈ r.want, runF r (List.range' j d) h c = runF r (List.range' j d) g c
  | 0, j, h, g, hd, hj, e, c, hc => by
    have : j = r.mv.length := by omega
    subst this
    rw [need_end] at e
    exact e c hc
  | d + 1, j, h, g, hd, hj, e, c, hc => by
    rw [List.range'_succ]
    have hlt : j < r.mv.length := by omega
    have om := o.mv _ (mv_mem hlt)
    refine need_tells o d (j + 1) _ _ (by omega) (by omega) (fun x hx => ?_) c hc
    by_cases ex : x = glAt r j
    · subst ex
      have hcnt : Cnt r j := hx
      show stepF (mvAt r j) h (mvAt r j).gl = stepF (mvAt r j) g (mvAt r j).gl
      rw [step_gl, step_gl]
      exact term_eq om.cp fun y hy => e y ((need_mem hlt y).mpr (.inl ⟨hcnt, hy⟩))
    · show stepF (mvAt r j) h x = stepF (mvAt r j) g x
      rw [step_ne ex, step_ne ex]
      exact e x ((need_mem hlt x).mpr (.inr ⟨hx, ex⟩))
theorem runF_app {r : Rw} {a b c : Nat} {h : Ct} (h1 : a ≤ b) (h2 : b ≤ c) : runF r (List.range' a (c - a)) h = runF r (List.range' b (c - b)) (runF r (List.range' a (b - a)) h) := by
  unfold runF
  rw [← List.foldl_append]
  congr 1
  rw [show c - a = (b - a) + (c - b) by omega, ← List.range'_append_1]
  congr 2
  omega
/-- END by runs -/
theorem end_none {r : Rw} : endC r none = runF r (List.range' 0 (r.mv.length - 0)) oldT := runR_range (Nat.le_refl _)
theorem end_some {r : Rw} {k : Nat} (hk : k < r.mv.length) : endC r (some k) = runF r (List.range' (markL r k) (r.mv.length - markL r k)) (upC (runF r (List.range' 0 (k - 0)) oldT) (glAt r k) (spoT 0)) := by
  show runR r (markL r k) r.mv.length (upC (runR r 0 k oldT) _ (spoT 0)) = _
  rw [runR_range (Nat.le_refl _), runR_range (Nat.le_of_lt hk)]
  rfl
/-! ### no hazard: nothing is lost -/
theorem safe {r : Rw} (o : r.Ok) (hz : allHz r = []) {k : Nat} (hk : k < r.mv.length) : endL r (some k) = endL r none := by
  obtain ⟨p, hp, h1, h2⟩ := mark_ex o hk
  have em := mark_of o hp h1 h2
  obtain ⟨_, _, h3, h4⟩ := spots_at o hp
  have no : ∀ n c l, ¬ Haz r ((spotsL r).getD p 0) ((spotsL r).getD (p + 1) 0) n c l := fun n c l hh => by
    have : ((n, c, l) : Hz) ∈ allHz r := List.mem_flatMap.mpr ⟨p, List.mem_range.mpr hp, (blk_mem h4).mpr hh⟩
    rw [hz] at this
    cases this
  generalize ea : (spotsL r).getD p 0 = a at *
  generalize eb : (spotsL r).getD (p + 1) 0 = b at *
  -- no move from a to k writes what is needed at a
  have nowr : ∀ c ∈ needAt r a, ∀ i, a ≤ i → i ≤ k → glAt r i ≠ c := by
    intro c hc i hi hik e
    have hex : ∃ j, a ≤ j ∧ j ≤ i ∧ glAt r j = c ∧ ∀ x, a ≤ x → x < j → glAt r x ≠ c := by
      have key : ∀ d j, j - a = d → a ≤ j → j ≤ i → glAt r j = c → ∃ j, a ≤ j ∧ j ≤ i ∧ glAt r j = c ∧ ∀ x, a ≤ x → x < j → glAt r x ≠ c := by
        intro d
        induction d using Nat.strongRecOn with
        | _ d ih =>
          intro j hd ha hji hj
          by_cases hq : ∃ x, a ≤ x ∧ x < j ∧ glAt r x = c
          · obtain ⟨x, x1, x2, x3⟩ := hq
            exact ih (x - a) (by omega) x rfl x1 (by omega) x3
          · exact ⟨j, ha, hji, hj, fun x x1 x2 x3 => hq ⟨x, x1, x2, x3⟩⟩
      exact key _ i rfl hi (Nat.le_refl _) e
    obtain ⟨j, j1, j2, j3, j4⟩ := hex
    rcases (need_iff (r.mv.length - a) a rfl (by omega)).mp hc with ⟨n, n1, n2, n3, n4, n5⟩ | ⟨w1, w2⟩
    · by_cases hnj : n ≤ j
      · exact no n c j ⟨n1, by omega, n3, n4, n5, hnj, by omega, j3⟩
      · exact n5 j j1 (by omega) j3
    · exact w2 j j1 (by omega) j3
  have agree : ∀ c ∈ needAt r a, upC (runF r (List.range' 0 (k - 0)) oldT) (glAt r k) (spoT 0) c = runF r (List.range' 0 (a - 0)) oldT c := fun c hc => by
    show (if c = glAt r k then _ else _) = _
    rw [if_neg fun e => nowr c hc k h1 (Nat.le_refl _) e.symm, runF_app (a := 0) (b := a) (c := k) (Nat.zero_le _) h1]
    exact run_ne _ _ fun i hi => by
      have := List.mem_range'_1.mp hi
      exact nowr c hc i (by omega) (by omega)
  unfold endL
  refine List.map_congr_left fun c hc => ?_
  rw [end_some hk, em, end_none, runF_app (a := 0) (b := a) (c := r.mv.length) (Nat.zero_le _) (by omega)]
  exact need_tells o (r.mv.length - a) a _ _ rfl (by omega) agree c hc
/-! ### a hazard: the loss is seen at END -/
inductive Sp : T → Prop
  | here : Sp (spoT 0)
  | sub {nm : Str} {ts : List T} {t : T} : t ∈ ts → Sp t → Sp (.tup [.str nm, .tup ts])
theorem sp_old (c : Str) : ¬ Sp (oldT c) := by
  intro h
  generalize e : oldT c = t at h
  cases h with
  | here =>
    unfold oldT spoT at e
    simp [natT] at e
  | sub _ _ =>
    unfold oldT at e
    simp at e
theorem sp_term {m : Mv} {h : Ct} (hc : m.nm = "copy" → m.rd.length = 1) (hs : Sp (termF m h)) : ∃ c ∈ m.rd, Sp (h c) := by
  unfold termF at hs
  split at hs
  · rename_i hcp
    have h1 := hc hcp
    have h0 : m.rd[0]? = some (m.rd.getD 0 "") := by rw [List.getD_eq_getElem?_getD]; simp [show 0 < m.rd.length by omega]
    exact ⟨_, List.mem_of_getElem? h0, hs⟩
  · generalize e : T.tup [.str m.nm, .tup (m.rd.map h)] = t at hs
    cases hs with
    | here => unfold spoT at e; simp [natT] at e
    | @sub nm ts t ht hst =>
      have e' : m.rd.map h = ts := by simpa using (T.tup.inj e |> fun z => by simpa using z : m.nm = nm ∧ m.rd.map h = ts).2
      rw [← e'] at ht
      obtain ⟨c, hc2, rfl⟩ := List.mem_map.mp ht
      exact ⟨c, hc2, hst⟩
theorem term_sp {m : Mv} {h : Ct} (hc : m.nm = "copy" → m.rd.length = 1) {c : Str} (hm : c ∈ m.rd) (hs : Sp (h c)) : Sp (termF m h) := by
  unfold termF
  split
  · rename_i hcp
    have h1 := hc hcp
    have : m.rd.getD 0 "" = c := by
      obtain ⟨i, hi, e⟩ := List.mem_iff_getElem.mp hm
      have : i = 0 := by omega
      subst this
      rw [List.getD_eq_getElem?_getD]; simp [hi, e]
    rw [this]; exact hs
  · exact .sub (List.mem_map.mpr ⟨c, hm, rfl⟩) hs
theorem clean {r : Rw} (o : r.Ok) : ∀ (l : List Nat) (h : Ct), (∀ n ∈ l, n < r.mv.length) → (∀ c, ¬ Sp (h c)) → ∀ c, ¬ Sp (runF r l h c)
  | [], h, _, hs => hs
  | n :: l, h, hn, hs => by
    refine clean o l (stepF (mvAt r n) h) (fun m hm => hn m (List.mem_cons_of_mem _ hm)) fun c => ?_
    show ¬ Sp (if c = (mvAt r n).gl then _ else _)
    split
    · intro z
      obtain ⟨x, _, hx⟩ := sp_term (o.mv _ (mv_mem (hn n List.mem_cons_self))).cp z
      exact hs x hx
    · exact hs c
theorem flows {r : Rw} (o : r.Ok) : ∀ (d j : Nat) (h : Ct), r.mv.length - j = d → j ≤ r.mv.length → (∃ c ∈ needAt r j, Sp (h c)) → ∃ c ∈ r.want, Sp (runF r (List.range' j d) h c)
  | 0, j, h, hd, hj, ⟨c, hc, hs⟩ => by
    have : j = r.mv.length := by omega
    subst this
    rw [need_end] at hc
    exact ⟨c, hc, hs⟩
  | d + 1, j, h, hd, hj, ⟨c, hc, hs⟩ => by
    rw [List.range'_succ]
    have hlt : j < r.mv.length := by omega
    have om := o.mv _ (mv_mem hlt)
    refine flows o d (j + 1) _ (by omega) (by omega) ?_
    rcases (need_mem hlt c).mp hc with ⟨h1, h2⟩ | ⟨h1, h2⟩
    · refine ⟨glAt r j, h1, ?_⟩
      show Sp (stepF (mvAt r j) h (mvAt r j).gl)
      rw [step_gl]
      exact term_sp om.cp h2 hs
    · exact ⟨c, h1, by show Sp (stepF (mvAt r j) h c); rw [step_ne h2]; exact hs⟩
theorem harms {r : Rw} (o : r.Ok) {p n l : Nat} {c : Str} (hp : p < (spotsL r).length - 1) (hh : Haz r ((spotsL r).getD p 0) ((spotsL r).getD (p + 1) 0) n c l) : endL r (some l) ≠ endL r none := by
  obtain ⟨_, _, h3, h4⟩ := spots_at o hp
  obtain ⟨a1, a2, a3, a4, a5, a6, a7, a8⟩ := hh
  have hl : l < r.mv.length := by omega
  have em := mark_of o hp (Nat.le_trans a1 a6) a7
  generalize ea : (spotsL r).getD p 0 = a at *
  have hn : n < r.mv.length := by omega
  intro e
  have sp : ∃ w ∈ r.want, Sp (endC r (some l) w) := by
    rw [end_some hl, em, runF_app (a := a) (b := n) (c := r.mv.length) a1 (by omega)]
    refine flows o (r.mv.length - n) n _ rfl (by omega) ⟨c, (need_mem hn c).mpr (.inl ⟨a3, a4⟩), ?_⟩
    rw [run_ne _ _ fun i hi => by
      have := List.mem_range'_1.mp hi
      exact a5 i (by omega) (by omega)]
    show Sp (if c = glAt r l then spoT 0 else _)
    rw [if_pos a8.symm]
    exact .here
  obtain ⟨w, hw, hs⟩ := sp
  have e2 : endC r (some l) w = endC r none w := by
    have := List.map_inj_left.mp e w hw
    exact this
  rw [e2, end_none] at hs
  exact clean o _ _ (fun m hm => by have := List.mem_range'_1.mp hm; omega) sp_old w hs
theorem keeps_iff {r : Rw} (o : r.Ok) : hazL r = [] ↔ ∀ k, k < r.mv.length → endL r (some k) = endL r none := by
  have e : hazL r = [] ↔ allHz r = [] := by
    rw [haz_lh, lh_all]
    constructor
    · intro h
      cases hq : allHz r with
      | nil => rfl
      | cons x l =>
        have : x ∈ ordU ltH (allHz r) := (mem_ordU lin_hz).mpr (by rw [hq]; exact List.mem_cons_self)
        rw [h] at this
        cases this
    · intro h; rw [h]; rfl
  rw [e]
  constructor
  · exact fun h k hk => safe o h hk
  · intro h
    cases hq : allHz r with
    | nil => rfl
    | cons x l =>
      have hx : x ∈ allHz r := by rw [hq]; exact List.mem_cons_self
      obtain ⟨p, hp, h2⟩ := List.mem_flatMap.mp hx
      have hp' := List.mem_range.mp hp
      have h4 := (spots_at o hp').2.2.2
      have hh := (blk_mem h4).mp h2
      have := hh.2.2.2.2.2.2.1
      exact absurd (h x.2.2 (by omega)) (harms o hp' hh)
theorem keeps_lost {r : Rw} (o : r.Ok) : decide ((hazL r).length = 0) = decide ((List.range r.mv.length).filter (lostB r) = []) := by
  rw [Bool.eq_iff_iff, decide_eq_true_eq, decide_eq_true_eq, List.length_eq_zero_iff, keeps_iff o, List.filter_eq_nil_iff]
  constructor
  · intro h k hk z
    exact (lost_iff o).mp z (h k (List.mem_range.mp hk))
  · intro h k hk
    have := h k (List.mem_range.mpr hk)
    rw [lost_iff o] at this
    exact Classical.not_not.mp this
end Nine
set_option maxHeartbeats 4000000
/-! K9P4: the plain law of FLEETs. -/
namespace Nine
open PySem PySem.Spec PyProof.Rows L2
/-- a FLEET with its own moments and lates, as the law draws it -/
structure TmOk (x : List Tm) : Prop where
  fl : FlOk (flOf x)
  asc : Asc ltS (x.map fun p => p.1.nm)
  beg : ∀ p ∈ x, p.2.1 ∈ p.1.tries
  late : ∀ p ∈ x, 1 ≤ p.2.2 ∧ p.2.1 + p.2.2 < 20
  last : ∀ p ∈ x, ∀ t ∈ p.1.tries, t ≤ lastN p.1
section
variable {x : List Tm} {bad : List Str}
theorem b_get {k : Nat} (h : k < x.length) : bAt x k = x[k].2.1 := by
  unfold bAt; rw [List.getD_eq_getElem?_getD]; simp [h]
theorem l_get {k : Nat} (h : k < x.length) : lAt x k = x[k].2.2 := by
  unfold lAt; rw [List.getD_eq_getElem?_getD]; simp [h]
theorem d_get {k : Nat} (h : k < x.length) : dAt x k = x[k].1 := by
  unfold dAt; rw [List.getD_eq_getElem?_getD]; simp [h]
theorem stop_le {p : Tm} (hp : p ∈ x) (hb : p.1.cls ∈ bad) : stopN x bad ≤ p.2.1 + p.2.2 :=
  minL_le (List.mem_map.mpr ⟨(p.2.1, p.2.1 + p.2.2, p.1.nm), List.mem_map.mpr ⟨p, List.mem_filter.mpr ⟨hp, decide_eq_true hb⟩, rfl⟩, rfl⟩)
theorem stop_at (h : badL x bad ≠ []) : ∃ p ∈ x, p.1.cls ∈ bad ∧ stopN x bad = p.2.1 + p.2.2 := by
  have hm : stopN x bad ∈ (badL x bad).map fun p => p.2.1 := minL_mem fun z => h (List.map_eq_nil_iff.mp z)
  obtain ⟨q, hq, e⟩ := List.mem_map.mp hm
  obtain ⟨p, hp, rfl⟩ := List.mem_map.mp hq
  obtain ⟨h1, h2⟩ := List.mem_filter.mp hp
  exact ⟨p, h1, of_decide_eq_true h2, e.symm⟩
/-- who has begun before t, by the run -/
theorem run_to (o : TmOk x) (h : badL x bad ≠ []) : ∀ t, t ≤ stopN x bad → (((List.range t).foldl (rsStep x bad) ([], none)).2 = none ∧ ((List.range t).foldl (rsStep x bad) ([], none)).1.Nodup ∧
    ∀ k, k ∈ ((List.range t).foldl (rsStep x bad) ([], none)).1 ↔ k < x.length ∧ (dAt x k).cls ∈ bad ∧ bAt x k < t)
  | 0, _ => ⟨rfl, List.nodup_nil, fun k => by simp⟩
  | t + 1, ht => by
    obtain ⟨h1, h2, h3⟩ := run_to o h t (by omega)
    rw [List.range_succ, List.foldl_append]
    show (rsStep x bad _ t).2 = none ∧ (rsStep x bad _ t).1.Nodup ∧ ∀ k, k ∈ (rsStep x bad _ t).1 ↔ _
    generalize (List.range t).foldl (rsStep x bad) ([], none) = st at h1 h2 h3
    have hs : rsStop x st t = none := by
      unfold rsStop
      rw [if_neg, h1]
      rintro ⟨_, hne⟩
      refine hne (List.filter_eq_nil_iff.mpr fun k hk hd => ?_)
      obtain ⟨a, b, c⟩ := (h3 k).mp hk
      have hd' := of_decide_eq_true hd
      rw [b_get a, l_get a] at hd'
      rw [d_get a] at b
      have := stop_le (List.getElem_mem a) b
      omega
    unfold rsStep
    rw [hs, if_pos rfl]
    refine ⟨rfl, ?_, fun k => ?_⟩
    · refine List.nodup_append.mpr ⟨h2, List.Pairwise.filter _ List.nodup_range, fun a ha b hb e => ?_⟩
      subst e
      have h4 := ((h3 a).mp ha).2.2
      unfold newL at hb
      have h5 := (List.mem_filter.mp hb).2
      simp only [Bool.and_eq_true, decide_eq_true_eq] at h5
      omega
    · rw [List.mem_append, h3]
      unfold newL
      rw [List.mem_filter, List.mem_range]
      simp only [Bool.and_eq_true, decide_eq_true_eq]
      constructor
      · rintro (⟨a, b, c⟩ | ⟨a, b, c⟩)
        · exact ⟨a, b, by omega⟩
        · exact ⟨a, c, by omega⟩
      · rintro ⟨a, b, c⟩
        by_cases e : bAt x k = t
        · exact .inr ⟨a, e, b⟩
        · exact .inl ⟨a, b, by omega⟩
theorem run_stays {s : Nat} : ∀ (l : List Nat) (st : RS), st.2 = some s → l.foldl (rsStep x bad) st = st
  | [], st, _ => rfl
  | n :: l, st, h => by
    rw [List.foldl_cons]
    have e : rsStep x bad st n = st := by
      have hs : rsStop x st n = some s := by unfold rsStop; rw [if_neg (by rw [h]; rintro ⟨z, _⟩; cases z), h]
      unfold rsStep
      rw [hs, if_neg (by simp)]
      exact Prod.ext rfl h.symm
    rw [e]
    exact run_stays l st h
theorem run_all (o : TmOk x) (h : badL x bad ≠ []) : (rsRun x bad).2 = some (stopN x bad) ∧ (rsRun x bad).1.Nodup ∧ ∀ k, k ∈ (rsRun x bad).1 ↔ k < x.length ∧ (dAt x k).cls ∈ bad ∧ bAt x k < stopN x bad := by
  obtain ⟨p, hp, hb, e⟩ := stop_at h
  have hl := o.late p hp
  have hS : stopN x bad < 20 := by omega
  obtain ⟨h1, h2, h3⟩ := run_to o h (stopN x bad) (Nat.le_refl _)
  have er : List.range 20 = List.range (stopN x bad) ++ (stopN x bad :: (List.range' (stopN x bad + 1) (20 - (stopN x bad + 1)))) := by
    rw [List.range_eq_range', List.range_eq_range']
    have : List.range' 0 20 = List.range' 0 (stopN x bad) ++ List.range' (stopN x bad) (20 - stopN x bad) := by
      rw [show 20 = stopN x bad + (20 - stopN x bad) by omega, ← List.range'_append_1]
      congr 2 <;> omega
    rw [this, show 20 - stopN x bad = (20 - (stopN x bad + 1)) + 1 by omega, List.range'_succ]
  unfold rsRun
  rw [er, List.foldl_append, List.foldl_cons]
  generalize (List.range (stopN x bad)).foldl (rsStep x bad) ([], none) = st at h1 h2 h3
  obtain ⟨k, hk, ek⟩ := List.mem_iff_getElem.mp hp
  have hin : k ∈ st.1 := (h3 k).mpr ⟨hk, by rw [d_get hk, ek]; exact hb, by rw [b_get hk, ek]; omega⟩
  have hs : rsStop x st (stopN x bad) = some (stopN x bad) := by
    unfold rsStop
    have hne : toldL x st.1 (stopN x bad) ≠ [] := fun z => by
      have : k ∈ toldL x st.1 (stopN x bad) := List.mem_filter.mpr ⟨hin, decide_eq_true (by rw [b_get hk, l_get hk, ek]; omega)⟩
      rw [z] at this
      cases this
    rw [if_pos ⟨h1, hne⟩]
  have e2 : rsStep x bad st (stopN x bad) = (st.1, some (stopN x bad)) := by
    unfold rsStep
    rw [hs, if_neg (by simp)]
  rw [e2, run_stays (s := stopN x bad) _ _ rfl]
  exact ⟨rfl, h2, h3⟩
theorem harm_mem {z : Str} : z ∈ harmL x bad ↔ ∃ p ∈ x, p.1.cls ∈ bad ∧ p.2.1 < stopN x bad ∧ p.1.nm = z := by
  unfold harmL
  rw [List.mem_map]
  constructor
  · rintro ⟨q, hq, e⟩
    obtain ⟨h1, h2⟩ := List.mem_filter.mp hq
    obtain ⟨p, hp, rfl⟩ := List.mem_map.mp h1
    obtain ⟨h3, h4⟩ := List.mem_filter.mp hp
    exact ⟨p, h3, of_decide_eq_true h4, of_decide_eq_true h2, e⟩
  · rintro ⟨p, h1, h2, h3, h4⟩
    exact ⟨_, List.mem_filter.mpr ⟨List.mem_map.mpr ⟨p, List.mem_filter.mpr ⟨h1, decide_eq_true h2⟩, rfl⟩, decide_eq_true h3⟩, h4⟩
theorem harm_eq : harmL x bad = (x.filter fun p => decide (p.1.cls ∈ bad) && decide (p.2.1 < stopN x bad)).map fun p => p.1.nm := by
  unfold harmL badL
  rw [List.filter_map, List.map_map, List.filter_filter]
  congr 1
  refine List.filter_congr fun p _ => ?_
  simp [Function.comp, Bool.and_comm]
theorem harm_asc (o : TmOk x) : Asc ltS (harmL x bad) := by
  rw [harm_eq]
  have := o.asc
  unfold Asc at this ⊢
  rw [List.pairwise_map] at this ⊢
  exact List.Pairwise.filter _ this
theorem nm_inj (o : TmOk x) {i j : Nat} (hi : i < x.length) (hj : j < x.length) (e : (dAt x i).nm = (dAt x j).nm) : i = j := by
  have h := o.asc
  unfold Asc at h
  rw [List.pairwise_map, List.pairwise_iff_getElem] at h
  rw [d_get hi, d_get hj] at e
  rcases Nat.lt_trichotomy i j with z | z | z
  · have := h i j hi hj z
    rw [e, lin_str.irr] at this
    cases this
  · exact z
  · have := h j i hj hi z
    rw [e, lin_str.irr] at this
    cases this
theorem hit_nodup (o : TmOk x) (h : badL x bad ≠ []) : ((rsRun x bad).1.map fun k => (dAt x k).nm).Nodup := by
  obtain ⟨_, h2, h3⟩ := run_all o h
  refine List.pairwise_map.mpr (List.Pairwise.imp_of_mem (fun {a b} ha hb hne e => hne ?_) h2)
  exact nm_inj o ((h3 a).mp ha).1 ((h3 b).mp hb).1 e
theorem hit_names (o : TmOk x) (h : badL x bad ≠ []) : ordU ltS ((rsRun x bad).1.map fun k => (dAt x k).nm) = harmL x bad := by
  obtain ⟨_, h2, h3⟩ := run_all o h
  refine ordU_of lin_str (harm_asc o) fun z => ?_
  rw [harm_mem, List.mem_map]
  constructor
  · rintro ⟨p, h1, h4, h5, h6⟩
    obtain ⟨k, hk, ek⟩ := List.mem_iff_getElem.mp h1
    exact ⟨k, (h3 k).mpr ⟨hk, by rw [d_get hk, ek]; exact h4, by rw [b_get hk, ek]; exact h5⟩, by rw [d_get hk, ek]; exact h6⟩
  · rintro ⟨k, hk, e⟩
    obtain ⟨a, b, c⟩ := (h3 k).mp hk
    rw [d_get a] at b e
    rw [b_get a] at c
    exact ⟨x[k], List.getElem_mem a, b, c, e⟩
theorem run_T (o : TmOk x) (h : badL x bad ≠ []) : runT x bad = .tup [.tup ((harmL x bad).map T.str), natT (stopN x bad)] := by
  unfold runT
  rw [hit_names o h, (run_all o h).1]
  rfl
/-! ### at most so many -/
theorem few_harmed (o : TmOk x) (h : badL x bad ≠ []) (dl : Nat) (hdl : ∀ p ∈ x, p.2.2 ≤ dl) : (harmL x bad).length ≤ mostL (flOf x) dl := by
  -- the first bad begin
  let M := minL ((x.filter fun p => decide (p.1.cls ∈ bad)).map fun p => p.2.1)
  have hne : (x.filter fun p => decide (p.1.cls ∈ bad)).map (fun p => p.2.1) ≠ [] := fun z => h (by unfold badL; rw [List.map_eq_nil_iff.mp z]; rfl)
  have hM : M ∈ (x.filter fun p => decide (p.1.cls ∈ bad)).map fun p => p.2.1 := minL_mem hne
  obtain ⟨j, hj, ej⟩ := List.mem_map.mp hM
  obtain ⟨hjx, hjb⟩ := List.mem_filter.mp hj
  have hjb' := of_decide_eq_true hjb
  have hle : ∀ p ∈ x, p.1.cls ∈ bad → M ≤ p.2.1 := fun p hp hb => minL_le (List.mem_map.mpr ⟨p, List.mem_filter.mpr ⟨hp, decide_eq_true hb⟩, rfl⟩)
  have hopen : ∀ p ∈ x, p.1.cls ∈ bad → p.1.cls ∈ openL (flOf x) M := fun p hp hb => by
    unfold openL clsL shutL
    refine List.mem_filter.mpr ⟨(mem_ordU lin_str).mpr (List.mem_map.mpr ⟨p.1, List.mem_map.mpr ⟨p, hp, rfl⟩, rfl⟩), ?_⟩
    rw [Bool.not_eq_true', decide_eq_false_iff_not]
    intro hm
    obtain ⟨d, hd, e⟩ := List.mem_map.mp hm
    obtain ⟨hd1, hd2⟩ := List.mem_filter.mp hd
    obtain ⟨q, hq, rfl⟩ := List.mem_map.mp hd1
    have h1 := of_decide_eq_true hd2
    have h2 := hle q hq (by rw [e]; exact hb)
    have h3 := o.last q hq _ (o.beg q hq)
    omega
  have hS : stopN x bad ≤ M + dl := by
    have h1 := stop_le hjx hjb'
    have h2 := hdl j hjx
    have h3 : j.2.1 = M := ej
    omega
  have hcnt : (harmL x bad).length ≤ cntAt (flOf x) dl M := by
    have hany : (rowsAt (flOf x) M).any (fun t => decide (M ∈ t)) = true := by
      rw [List.any_eq_true]
      refine ⟨j.1.tries, List.mem_map.mpr ⟨j.1, List.mem_filter.mpr ⟨List.mem_map.mpr ⟨j, hjx, rfl⟩, decide_eq_true (hopen j hjx hjb')⟩, rfl⟩, decide_eq_true ?_⟩
      have h3 : j.2.1 = M := ej
      rw [← h3]
      exact o.beg j hjx
    unfold cntAt
    rw [if_pos hany, harm_eq, List.length_map]
    unfold rowsAt
    rw [List.filter_map, List.length_map, List.filter_filter]
    have e : flOf x = x.map fun p => p.1 := rfl
    rw [e, List.filter_map, List.length_map, ← List.countP_eq_length_filter, ← List.countP_eq_length_filter]
    refine List.countP_mono_left fun p hp hq => ?_
    simp only [Bool.and_eq_true, decide_eq_true_eq] at hq
    simp only [Function.comp, Bool.and_eq_true, decide_eq_true_eq, List.any_eq_true]
    refine ⟨⟨p.2.1, o.beg p hp, ?_⟩, hopen p hp hq.1⟩
    unfold withinB
    have := hle p hp hq.1
    simp only [Bool.and_eq_true, decide_eq_true_eq]
    omega
  refine Nat.le_trans hcnt (maxL_le (List.mem_map.mpr ⟨M, (mem_ordU lin_nat).mpr (List.mem_flatMap.mpr ⟨j.1, List.mem_map.mpr ⟨j, hjx, rfl⟩, ?_⟩), rfl⟩))
  have h3 : j.2.1 = M := ej
  rw [← h3]
  exact o.beg j hjx
end
end Nine
set_option maxHeartbeats 4000000
/-! K9L5: the law on a FLEET, walked. -/
namespace Nine
open PySem PySem.Spec PyProof.Rows L2
theorem gd_hz {r : Rw} (o : r.Ok) {h : Hz} (hm : h ∈ hazL r) : Gd 1 (hzT h) := by
  have h2 : h ∈ allHz r := by
    rw [haz_lh, lh_all] at hm
    exact (mem_ordU lin_hz).mp hm
  obtain ⟨p, hp, h3⟩ := List.mem_flatMap.mp h2
  have h4 := (spots_at o (List.mem_range.mp hp)).2.2.2
  obtain ⟨a1, a2, a3, a4, _⟩ := (blk_mem h4).mp h3
  have hc := (o.mv _ (mv_mem (show h.1 < r.mv.length by omega))).rd _ a4
  refine gd_tup fun t ht => ?_
  simp only [List.mem_cons, List.not_mem_nil, or_false] at ht
  rcases ht with e | e | e
  · rw [e]; exact gd_int _ _
  · rw [e]; exact gd_str _ (o.ck _ hc)
  · rw [e]; exact gd_int _ _
theorem gd_hazs {r : Rw} (o : r.Ok) : Gd 2 (.tup ((hazL r).map hzT)) := gd_tup fun t ht => by
  obtain ⟨h, hh, rfl⟩ := List.mem_map.mp ht
  exact gd_hz o hh
theorem gd_empty (n : Nat) : Gd n (.tup []) ∨ n = 0 := by
  cases n with
  | zero => exact .inr rfl
  | succ n => exact .inl (gd_tup fun t ht => nomatch ht)
theorem tup_nil {ts : List T} : PyData.eqv (T.tup ts).d (T.tup []).d = decide (ts = []) := by
  cases ts with
  | nil => simp [T.d, T.ds, PyData.eqv, PyData.eqvAll]
  | cons t ts => simp [T.d, T.ds, PyData.eqv, PyData.eqvAll]
theorem strs_ok {xs : List Str} (h : ∀ c ∈ xs, PyData.strOk c = true) : Gd 1 (.tup (xs.map T.str)) := gd_tup fun t ht => by
  obtain ⟨c, hc, rfl⟩ := List.mem_map.mp ht
  exact gd_str _ (h c hc)
theorem sm_strs : ∀ xs : List Str, T.smTs (xs.map T.str)
  | [] => by simp [T.smTs]
  | x :: xs => by rw [List.map_cons]; simp only [T.smTs, T.smT, true_and]; exact sm_strs xs
theorem dep_strs : ∀ xs : List Str, PyData.depthAll (T.ds (xs.map T.str)) = 0
  | [] => rfl
  | x :: xs => by rw [List.map_cons]; simp only [T.ds, PyData.depthAll, T.d, PyData.depth]; rw [dep_strs xs]; rfl
def illL (x : List Tm) (ro : Str → Rw) : List Str := (clsL (flOf x)).filter fun c => decide (hazL (ro c) ≠ [])
section
variable {P : Program} {w : World} {K : PySem.W.Frag} {mg : Str → Option Value} {base : Heap}
def r_l_kinds (as : List A4) (r : A4) : Prop := ∃ fl : Fl, FlOk fl ∧ as = [.t (flT fl)] ∧ r = .t (.tup ((clsL fl).map T.str))
def r_fleet_right (as : List A4) (r : A4) : Prop := ∃ (x : List Tm) (ro : Str → Rw) (kvs : List (Str × T)), TmOk x ∧ x ≠ [] ∧ (∀ c ∈ clsL (flOf x), PyData.strOk c = true ∧ (ro c).Ok ∧ dGet kvs c = some (ro c).tf) ∧
  as = [.t (flT (flOf x)), .t (tmT x), .t (ltT x), .d kvs] ∧ r = .t (.bl true)
theorem ok_fleet_right (E : E9 K mg) {k : Nat} (G1 : Ok9 P w base k E.f_l_kinds r_l_kinds) (G2 : Ok9 P w base k E.f_l_hazards r_l_hazards) (G3 : Ok9 P w base k E.f_keeps r_keeps) (G4 : Ok9 P w base k E.f_l_same (r_same 60)) (G5 : Ok9 P w base k E.f_l_run r_l_run)
    (G6 : Ok9 P w base k E.f_harmed r_harmed) (G7 : Ok9 P w base k E.f_stopped_at r_stopped) (G8 : Ok9 P w base k E.f_most_harmed r_most) : Ok9 P w base (k + 1) E.f_l_fleet_right r_fleet_right := ok9 sc_l_fleet_right fun cdv A outer s H Ex as r hr hl h => by
  obtain ⟨x, ro, kvs, o, hne, hro, rfl, rfl⟩ := h
  have hfew := o.fl.few
  -- host 0, begins 1, lates 2, lines 3, ill 4, told 5, has 6, hit 7, stop 8, tag 9
  have hcl : (clsL (flOf x)).length ≤ 1000 := by
    have : (clsL (flOf x)).length ≤ ((flOf x).map Dev.cls).length := by
      have key : ∀ l : List Str, (ordU ltS l).length ≤ l.length := by
        intro l
        induction l with
        | nil => exact Nat.le_refl _
        | cons y l ih =>
          have ins : ∀ m : List Str, (insU ltS y m).length ≤ m.length + 1 := by
            intro m
            induction m with
            | nil => simp [insU]
            | cons z m ihm =>
              unfold insU
              split
              · simp
              · split
                · rw [List.length_cons, List.length_cons]; omega
                · simp
          show (insU ltS y (ordU ltS l)).length ≤ _
          have := ins (ordU ltS l)
          rw [List.length_cons]
          omega
      exact key _
    rw [List.length_map] at this
    omega
  refine ru_set 4 (y := .t (.tup ((illL x ro).map T.str))) sc_l_fleet_right.nd (y_tupleL (PyN.arg ?q1) E.b_tuple) ?_
  case q1 =>
    refine y_lc (own := [("_law_tag", 9)]) (clsL (flOf x)) T.str (fun c => decide (hazL (ro c) ≠ [])) T.str [9] rfl sc_l_fleet_right.nd ((i_tup (y_callT (f := E.f_l_kinds) G1 hr (a1 (yv 0)) ⟨flOf x, o.fl, rfl, rfl⟩)).c) (blkOk_by (N := n_l_fleet_right) (sc := defScope s_l_fleet_right) (by decide +kernel)) (by decide) fun c hc => ?_
    obtain ⟨_, ok, hg⟩ := hro c hc
    refine ⟨_, fun s H C cl fp => ⟨⟨g_name 9 sc_l_fleet_right.nd, ts_one (Pt.eq (t_neD (x := .t (.tup ((hazL (ro c)).map hzT))) (y := .t (.tup [])) hr.units (y_callT (f := E.f_l_hazards) G2 hr (a1 (y_dget (u1 hr) (yd 3) (yv 9) hg)) ⟨ro c, ok, lh_nodup ok, rfl, by rw [haz_lh]⟩) (y_tup b_nil) ((gd_hazs ok).sh (by omega)) (by show SeqAt.shaped _ = true; rfl)) ?_)⟩, fun _ => yv 9⟩⟩
    show (!PyData.eqv (T.tup ((hazL (ro c)).map hzT)).d (T.tup []).d) = _
    rw [tup_nil]
    cases hazL (ro c) <;> simp
  refine ru_set 5 (y := .t (.tup ((illL x ro).map T.str))) sc_l_fleet_right.nd (y_tupleL (PyN.arg ?q2) E.b_tuple) ?_
  case q2 =>
    refine y_lc (own := [("_law_tag", 9)]) (clsL (flOf x)) T.str (fun c => decide (hazL (ro c) ≠ [])) T.str [9] rfl sc_l_fleet_right.nd ((i_tup (y_callT (f := E.f_l_kinds) G1 hr (a1 (yv 0)) ⟨flOf x, o.fl, rfl, rfl⟩)).c) (blkOk_by (N := n_l_fleet_right) (sc := defScope s_l_fleet_right) (by decide +kernel)) (by decide) fun c hc => ?_
    obtain ⟨_, ok, hg⟩ := hro c hc
    refine ⟨_, fun s H C cl fp => ⟨⟨g_name 9 sc_l_fleet_right.nd, ts_one (Pt.eq (t_not (t_val (y_callT (f := E.f_keeps) G3 hr (a1 (Py.rt (y_dget (u1 hr) (yd 3) (yv 9) hg))) ⟨ro c, ok, haz_len ok, rfl, rfl⟩))) ?_)⟩, fun _ => yv 9⟩⟩
    cases hazL (ro c) <;> simp
  refine ru_skip (Pt.eq (t_not (t_val (y_callT (t := .bl true) (f := E.f_l_same) G4 hr (a_cons (yv 5) (a1 (yv 4))) ⟨.t (.tup ((illL x ro).map T.str)), by simp only [A4.smA, T.smT]; exact sm_strs _, by simp only [A4.dt, T.d, PyData.depth]; rw [dep_strs]; omega, rfl, rfl⟩))) rfl) ?_
  have hill : ∀ c ∈ illL x ro, PyData.strOk c = true := fun c hc => (hro c (List.mem_filter.mp hc).1).1
  refine ru_if (k := decide (illL x ro = [])) (Pt.eq (t_eqD (x := .t (.tup ((illL x ro).map T.str))) (y := .t (.tup [])) hr.units (yv 4) (y_tup b_nil) ((strs_ok hill).sh (by omega)) (by show SeqAt.shaped _ = true; rfl)) ?_) (fun _ => ru_ret (x := .t (.bl true)) y_bl rfl) fun hk => ru_end ?_
  · show PyData.eqv (T.tup ((illL x ro).map T.str)).d (T.tup []).d = _
    rw [tup_nil]
    cases illL x ro <;> simp
  have hk' : illL x ro ≠ [] := of_decide_eq_false hk
  have bok : BadOk x (illL x ro) := ⟨o.fl, fun n hn => by
    have := (List.mem_filter.mp hn).1
    exact (mem_ordU lin_str).mp this, hk', Nat.le_trans (List.length_filter_le _ _) hcl⟩
  have hb := bok.some
  refine ru_unt (ts := [.tup ((harmL x (illL x ro)).map T.str), natT (stopN x (illL x ro))]) rfl (Py.eq (y_callT (t := runT x (illL x ro)) (f := E.f_l_run) G5 hr (a_cons (yv 0) (a_cons (yv 1) (a_cons (yv 2) (a1 (yv 4))))) ⟨x, illL x ro, o.fl, hit_nodup o hb, rfl, rfl⟩) (run_T o hb)) (gs_cons (g_name 7 sc_l_fleet_right.nd) (gs_cons (g_name 8 sc_l_fleet_right.nd) gs_nil)) ?_
  refine ru_set 6 (y := .s [.tup ((harmL x (illL x ro)).map T.str), natT (stopN x (illL x ro))]) sc_l_fleet_right.nd (y_lst (b_cons (y_callT (f := E.f_harmed) G6 hr (a_cons (yv 0) (a_cons (yv 1) (a_cons (yv 2) (a1 (yv 4))))) ⟨x, illL x ro, bok, rfl, rfl⟩) (b_cons (y_callT (f := E.f_stopped_at) G7 hr (a_cons (yv 0) (a_cons (yv 1) (a_cons (yv 2) (a1 (yv 4))))) ⟨x, illL x ro, bok, rfl, rfl⟩) b_nil))) ?_
  have hlx : x.map (fun p => p.2.2) ≠ [] := fun z => hne (List.map_eq_nil_iff.mp z)
  have hmost := few_harmed o hb (maxL (x.map fun p => p.2.2)) fun p hp => maxL_le (List.mem_map.mpr ⟨p, hp, rfl⟩)
  refine ru_append 6 (t := .bl true) rfl (Py.eq (y_le (y_len (yv 7) E.b_len) (y_callT (t := natT (mostL (flOf x) (maxL (x.map fun p => p.2.2)))) (f := E.f_most_harmed) G8 hr (a_cons (yv 0) (a1 (x := .t (natT (maxL (x.map fun p => p.2.2)))) (y_maxT rfl hr.units (yv 2) hlx E.b_max))) ⟨flOf x, maxL (x.map fun p => p.2.2), o.fl, fun z => hne (List.map_eq_nil_iff.mp z), rfl, rfl⟩)) ?_) ?_ (by simp)
  · rw [List.length_map, decide_eq_true (by omega)]
  refine ru_ret (x := .t (.bl true)) (y_callT (t := .bl true) (f := E.f_l_same) G4 hr (a_cons (yl 6) (a1 (PyN.arg (y_lst (b_cons (yv 7) (b_cons (yv 8) (b_cons y_bl b_nil))))))) ⟨.s [.tup ((harmL x (illL x ro)).map T.str), natT (stopN x (illL x ro)), .bl true], ?_, ?_, rfl, rfl⟩) rfl
  · simp only [A4.smA, T.smTs, T.smT, natT, and_true]
    exact sm_strs _
  · simp only [A4.dt, T.ds, T.d, PyData.depth, PyData.depthAll, natT]
    rw [dep_strs]
    decide
end
end Nine
set_option maxHeartbeats 4000000
/-! K9U: sets of data: how they stand, sorted(a set), set(a list) over any kind of member. -/
namespace Nine
open PySem PySem.Spec PyProof.Rows L2

/-- a set at a: its members' values in the order in which they lie -/
def SVals (w : World) (a : Addr) (vals : List Value) (h : Heap) : Prop :=
  ∃ es ep t, SetAt h a es ep t ∧ es.toList.map Prod.snd = vals ∧ t.fits es.size = true ∧ es.size < 64 ∧ Ris t.place.toList ∧ (w.params.followText "set-order" = true ∨ t.led = true)
def svO (w : World) (a : Addr) (vals : List Value) : HO := .ext fun h => SVals w a vals h
theorem SVals.at {w : World} {a : Addr} {vals : List Value} {h h' : Heap} (x : SVals w a vals h) (k : ∀ o, h.get? a = some o → h'.get? a = some o) : SVals w a vals h' := by
  obtain ⟨es, ep, t, y, r⟩ := x
  exact ⟨es, ep, t, y.at k, r⟩

/-- the items of a list in another order -/
theorem each_perm {α β : Type} {R : α → β → Prop} {as as' : List α} (p : as'.Perm as) : ∀ {bs : List β}, W.EachIs R as bs → ∃ bs', List.Perm bs' bs ∧ W.EachIs R as' bs' := by
  induction p with
  | nil => intro bs e; cases e; exact ⟨[], .refl _, .nil⟩
  | cons x p ih =>
    intro bs e
    cases e with
    | cons e1 e2 =>
      obtain ⟨bs', q1, q2⟩ := ih e2
      exact ⟨_ :: bs', q1.cons _, .cons e1 q2⟩
  | swap x y l =>
    intro bs e
    cases e with
    | cons e1 e2 =>
      cases e2 with
      | cons e3 e4 => exact ⟨_ :: _ :: _, List.Perm.swap .., .cons e3 (.cons e1 e4)⟩
  | trans p1 p2 ih1 ih2 =>
    intro bs e
    obtain ⟨b1, q1, q2⟩ := ih2 e
    obtain ⟨b2, q3, q4⟩ := ih1 q2
    exact ⟨b2, q3.trans q1, q4⟩

section
variable {X : Cx} {α : Type} {lt : α → α → Bool} {f : α → T}
def rSrtV (X : Cx) (lt : α → α → Bool) (f : α → T) (l : List α) : List V → Hp → VK → Prop := fun vs H Q => ∃ (a : Addr) (vals : List Value) (xs : List V) (ks : List α), vs = [.ref a] ∧ H a = some (svO X.w a vals) ∧ Vals xs vals ∧ ImAll X.K H xs (ks.map f) ∧
  ks.Nodup ∧ (∀ k, k ∈ ks ↔ k ∈ l) ∧ ∀ p ys, H p = none → ImAll X.K H ys ((ordU lt l).map f) → Q (.ref p) (upd H p (.lst ys))
theorem cr_srtV {l : List α} (L : Lin lt) (hlt : ∀ a b, ltD (f a) (f b) = lt a b) (hc : X.calm = true) (hu : X.A.units + 64 < cLine) (al : ∀ a b : α, W.alike (f a).d (f b).d = true) (so : ∀ l : List α, W.Sortable (l.map fun a => (f a).d)) (dp : ∀ a, (f a).d.depth ≤ 60) :
    CallR X (.builtin "sorted") (rSrtV X lt f l) := by
  intro pins s σ H vs us Q I r h
  obtain ⟨a, vals, xs, ks, rfl, ha, rv, hm, nd, hk, q⟩ := h
  obtain ⟨es, ep, t, hat, ev, hf, h64, hr, hl⟩ := (I.hok a _ ha).1
  rw [Vals.ref1 r]
  refine Calls.call_function_entry kind_sorted plain_sorted entry_sorted (args_sorted1 _) ?_
  unfold Builtin.«sorted»
  refine wpAny_bind (m := checkCount "sorted" 1 1 _) (wpAny_pure ?_)
  refine wpAny_bind (collect_set (A := X.A.in1) (I.ok.hd hc) hat hf (by unfold scanBound; omega) hr hl fun s1 us2 k1 hz g1 o1 pm => ?_)
  rw [ev] at pm
  have e0 : W.EachIs (fun v a => ∃ x, RelV x v ∧ Im X.K H x (f a)) vals ks := each_of (f := f) rv hm
  obtain ⟨ks2, pk, e1⟩ := each_perm pm e0
  have er0 : W.EachIs (fun v a => ∃ as, Reads s.heap v (f a).d as) us2 ks2 := each_mono (fun v a ⟨x, r, m⟩ => Dp.reads I _ _ _ (im_dp m) r) e1
  have ln : us2.length = ks2.length := e1.length
  have lv : us2.length < 64 := by
    rw [pm.length_eq, ← ev, List.length_map, Array.length_toList]
    exact h64
  refine wpAny_bind (wpAny_newList ?_ (by rw [sizeLine_eq]; omega))
  have hoL : (s1.heap.push (seqObj "list" us2.toArray 0)).get? s1.heap.objs.size = some (seqObj "list" us2.toArray 0) := Heap.get?_push_size _ rfl
  have er : W.EachIs (fun v a => ∃ as, Reads (W.sortingHeap (s1.heap.push (seqObj "list" us2.toArray 0)) s1.heap.objs.size us2) v (f a).d as) us2 ks2 :=
    each_mono (fun v a ⟨as, y⟩ => ⟨as, PyProof.Rows.Reads.keeps (fun b o e => by
      have e2 := k1 b o e
      exact W.sortingHeap_old (Nat.ne_of_lt (Heap.lt_size e2)) (Heap.get?_push_of_some _ e2)) y⟩) er0
  have hal : W.AllAlike (ks2.map fun a => (f a).d) := .of al
  have hlen0 : us2.length ≤ sizeLine := by rw [sizeLine_eq]; omega
  refine wpAny_bind (wpAny_holding (wpAny_call_entry slot_list_sort ⟨_, hoL, rfl⟩ entry_list_sort (W.list_sort_vals (κ := W.dataKind (W.sortingHeap (s1.heap.push (seqObj "list" us2.toArray 0)) s1.heap.objs.size us2) (ks2.map fun a => (f a).d)) hoL
    (W.SortsAt.data (s := { s1 with heap := W.sortingHeap (s1.heap.push (seqObj "list" us2.toArray 0)) s1.heap.objs.size us2 }) (W.each_map (R := fun v d => ∃ as, Reads (W.sortingHeap (s1.heap.push (seqObj "list" us2.toArray 0)) s1.heap.objs.size us2) v d as) (fun a => (f a).d) er) hal (so _)
      (W.bound_map fun b _ => by have := dp b; have e9 : X.A.in1.in1.units = X.A.units + 2 := rfl; omega)) hlen0 ⟨.none, rfl, ?_⟩) (args_list_sort _)))
  have so2 := W.sortVals_data (h' := W.sortingHeap (s1.heap.push (seqObj "list" us2.toArray 0)) s1.heap.objs.size us2) false e1 er hal
  have sl := W.sortVals_length (κ := W.dataKind (W.sortingHeap (s1.heap.push (seqObj "list" us2.toArray 0)) s1.heap.objs.size us2) (ks2.map fun a => (f a).d)) (vs := us2) (ks := us2) false rfl
  generalize W.sortVals (W.dataKind (W.sortingHeap (s1.heap.push (seqObj "list" us2.toArray 0)) s1.heap.objs.size us2) (ks2.map fun a => (f a).d)) false us2 us2 = out at so2 sl ⊢
  have nd2 : ks2.Nodup := pk.nodup_iff.mpr nd
  have eo : ks2.mergeSort (W.dataLe false fun a => (f a).d) = ordU lt l := by
    rw [srt_ord L hlt nd2]
    exact ordU_of L (asc_ordU L (l := l)) fun k => by rw [mem_ordU L, pk.mem_iff, hk]
  rw [eo] at so2
  obtain ⟨ys, ry, my⟩ := each_vals so2
  obtain ⟨c, hc9⟩ := sortedHeap_at (vs := us2) (out := out.toArray) hoL
  have kp : ∀ b o, s.heap.get? b = some o → (sortedHeap (s1.heap.push (seqObj "list" us2.toArray 0)) s1.heap.objs.size us2 out.toArray).get? b = some o := fun b u e => by
    have e2 := k1 b u e
    have z := Heap.lt_size e2
    rw [sortedHeap_old (Nat.ne_of_lt z) (by rw [size_push']; exact Nat.lt_succ_of_lt z)]
    exact Heap.get?_push_of_some _ e2
  have hlen : ys.length ≤ sizeLine := by rw [ry.length, sl]; exact hlen0
  have hn : H s1.heap.objs.size = none := I.hok.fresh hz
  obtain ⟨h1, g2, d1, t1, o2⟩ := s1
  have eg : g2 = s.gens := g1
  have eo2 : o2 = s.os := o1
  subst eg; subst eo2
  have J : Inv X pins σ (upd H h1.objs.size (.lst ys)) { s with heap := sortedHeap (h1.push (seqObj "list" us2.toArray 0)) h1.objs.size us2 out.toArray, gens := s.gens, drawn := d1, toks := t1 } :=
    I.call (ch := []) (Un.laid kp hz hn) (I.hok.laid kp hz ⟨hlen, out, c, ry, hc9⟩) I.bare (fun _ z => nomatch z)
  exact wpAny_pure ⟨_, rfl, .ref h1.objs.size, _, J, rfl, q _ ys hn my⟩
end
end Nine
set_option maxHeartbeats 4000000
/-! K9V: set(a list), any kind of member. -/
namespace Nine
open PySem PySem.Spec PyProof.Rows L2

abbrev fSet (w : World) : Obj := { cls := .type "set", dict := none, data := .set #[] 0 (.fresh 0 0 (!w.params.followText "set-order")) }
/-- a kind of member, and how a set of such stands -/
structure Mem (P : Program) (w : World) (α : Type) where
  is : Heap → α → Value → Prop
  good : Heap → Addr → List (Value × α) → Prop
  stay : ∀ {h h' : Heap} {k : α} {v : Value}, is h k v → (∀ b o, h.get? b = some o → h'.get? b = some o) → is h' k v
  svals : ∀ {h : Heap} {a : Addr} {M : List (Value × α)}, good h a M → SVals w a (M.map Prod.fst) h
  keep : ∀ {h h' : Heap} {a : Addr} {M : List (Value × α)}, good h a M → (∀ o, h.get? a = some o → h'.get? a = some o) → (∀ m ∈ M, is h' m.2 m.1) → good h' a M
  new : ∀ {h : Heap} {a : Addr}, h.get? a = some (fSet w) → good h a []
  put : ∀ {A : Around} {E : Value → Shared → Prop} {s : Shared} {a : Addr} {M : List (Value × α)} {v : Value} {k : α} {Q : Bool → Shared → Prop}, A.units < cLine → good s.heap a M → is s.heap k v → M.length + 1 < 64 →
    (∀ b h' M' tk, s.toks ≤ tk → Heap.SameBut a s.heap h' → good h' a M' → (k ∈ M.map Prod.snd → M' = M) → (k ∉ M.map Prod.snd → M'.Perm ((v, k) :: M)) → Q b { s with heap := h', toks := tk }) → wpAny (model P w) A (setAdd a v) Q E s
/-- what is in the set behind i items -/
structure Took {P : Program} {w : World} {α : Type} (m : Mem P w α) (h0 : Heap) (R9 : Value → α → Prop) (ks : List α) (i : Nat) (M : List (Value × α)) : Prop where
  sub : ∀ x ∈ M, x.2 ∈ ks.take i ∧ m.is h0 x.2 x.1 ∧ R9 x.1 x.2
  all : ∀ k ∈ ks.take i, k ∈ M.map Prod.snd
  len : M.length ≤ i
  nd : (M.map Prod.snd).Nodup
section
variable {P : Program} {w : World} {α : Type} {m : Mem P w α} {h0 : Heap} {R9 : Value → α → Prop} {ks : List α}
theorem Took.nil : Took m h0 R9 ks 0 [] := ⟨fun x hx => (by cases hx), fun k hk => (by cases hk), Nat.le_refl _, List.nodup_nil⟩
theorem Took.step {i : Nat} {M M' : List (Value × α)} {k : α} {v : Value} (t : Took m h0 R9 ks i M) (hk : ks[i]? = some k) (h1 : m.is h0 k v) (h2 : R9 v k) (c1 : k ∈ M.map Prod.snd → M' = M) (c2 : k ∉ M.map Prod.snd → M'.Perm ((v, k) :: M)) : Took m h0 R9 ks (i + 1) M' := by
  have e : ks.take (i + 1) = ks.take i ++ [k] := by
    rw [List.take_succ, hk]
    rfl
  rcases Classical.em (k ∈ M.map Prod.snd) with c | c
  · rw [c1 c]
    refine ⟨fun x hx => ⟨?_, (t.sub x hx).2⟩, fun z hz => ?_, Nat.le_succ_of_le t.len, t.nd⟩
    · rw [e]
      exact List.mem_append_left _ (t.sub x hx).1
    · rw [e] at hz
      rcases List.mem_append.mp hz with y | y
      · exact t.all z y
      · rw [List.mem_singleton.mp y]
        exact c
  · have p := c2 c
    refine ⟨fun x hx => ?_, fun z hz => ?_, ?_, ?_⟩
    · rw [e]
      rcases List.mem_cons.mp (p.mem_iff.mp hx) with y | y
      · rw [y]
        exact ⟨List.mem_append_right _ (List.mem_singleton.mpr rfl), h1, h2⟩
      · exact ⟨List.mem_append_left _ (t.sub x y).1, (t.sub x y).2⟩
    · rw [e] at hz
      refine (p.map Prod.snd).mem_iff.mpr ?_
      rcases List.mem_append.mp hz with y | y
      · exact List.mem_cons_of_mem _ (t.all z y)
      · rw [List.mem_singleton.mp y]
        exact .head _
    · rw [p.length_eq]
      exact Nat.succ_le_succ t.len
    · exact (p.map Prod.snd).nodup_iff.mpr (List.nodup_cons.mpr ⟨c, t.nd⟩)

theorem up_loop {A : Around} {I S : Addr} {fp wr : List Addr} {G : Array GenState → Array GenState → Prop} {n : Nat} {Pv : Nat → Value → Prop} {St : Nat → Shared → Prop} {R : Result → Shared → Prop}
    (W : WalksS P w A.in1 I fp wr G n Pv St) (hSf : S ∉ fp) (hn : n = ks.length) (few : ks.length < 64) (hv : ∀ i v, Pv i v → ∃ k, ks[i]? = some k ∧ m.is h0 k v ∧ R9 v k)
    (hS0 : h0.get? S = none) (hw0 : ∀ b ∈ wr, h0.get? b = none) (hu : A.in1.units < cLine) :
    ∀ (j i : Nat) (s : Shared), n - i = j → i ≤ n → St i s → (∀ b o, h0.get? b = some o → s.heap.get? b = some o) → (∃ M, m.good s.heap S M ∧ Took m h0 R9 ks i M) →
      (∀ s' M, Moved (S :: wr) G s s' → m.good s'.heap S M → Took m h0 R9 ks n M → (∀ b o, h0.get? b = some o → s'.heap.get? b = some o) → R (.ok (.ret .none)) s') →
      codeAny (model P w) A (.builtin "set.update.loop" ⟨[.ref S, .ref I], []⟩) R s := by
  have sw : S ∉ wr := fun z => hSf (W.sub _ z)
  have up : ∀ b ∈ wr, b ∈ S :: wr := fun b z => .tail _ z
  have kept : ∀ {s s' : Shared}, Moved wr G s s' → (∀ b o, h0.get? b = some o → s.heap.get? b = some o) → ∀ b o, h0.get? b = some o → s'.heap.get? b = some o := fun mv kp b o e =>
    mv.heap b o (fun z => by rw [hw0 b z] at e; cases e) (kp b o e)
  intro j
  induction j with
  | zero =>
    intro i s hj hi st kp ⟨M, g, t⟩ fin
    obtain rfl : i = n := by omega
    refine codeAny_builtin F.entry_set_update_loop (?_ : wpAny _ (A.under _) _ _ _ _)
    rw [Around.under_plainId F.plain_set_update_loop _]
    show wpAny (model P w) A.in1 (pyNext (.ref I) >>= _) _ _ s
    refine wpAny_bind (W.done s _ _ st fun s' mv => wpAny_pure (fin s' M (mv.mono up) ?_ t (kept mv kp)))
    exact m.keep g (fun o e => mv.heap S o sw e) fun x hx => m.stay (t.sub x hx).2.1 (kept mv kp)
  | succ j ih =>
    intro i s hj hi st kp ⟨M, g, t⟩ fin
    have lt : i < n := by omega
    refine codeAny_builtin F.entry_set_update_loop (?_ : wpAny _ (A.under _) _ _ _ _)
    rw [Around.under_plainId F.plain_set_update_loop _]
    show wpAny (model P w) A.in1 (pyNext (.ref I) >>= _) _ _ s
    refine wpAny_bind (W.item i s _ _ lt st fun v s' pv st' mv => ?_)
    obtain ⟨k, ek, ik, r9⟩ := hv i v pv
    have kp' := kept mv kp
    have g' : m.good s'.heap S M := m.keep g (fun o e => mv.heap S o sw e) fun x hx => m.stay (t.sub x hx).2.1 kp'
    show wpAny (model P w) A.in1 (holding [v] (setAdd S v) >>= _) _ _ s'
    refine wpAny_bind (wpAny_holding (m.put hu g' (m.stay ik kp') (by have := t.len; omega) fun b h' M' tk htk sb g2 c1 c2 => ?_))
    have off : ∀ b, b ≠ S → ∀ o, s'.heap.get? b = some o → h'.get? b = some o := fun b z o e => (sb.2 b z).trans e
    refine wpAny_pure ⟨plainId_quiet F.plain_set_update_loop _, ih (i + 1) _ (by omega) lt (W.frame _ s' _ _ st' htk fun b z o e => off b (fun y => hSf (y ▸ z)) o e) (fun b o e => off b (fun y => by rw [y, hS0] at e; cases e) o (kp' b o e)) ⟨M', g2, t.step ek ik r9 c1 c2⟩ fun s'' M2 mv2 g3 t3 kp2 => ?_⟩
    exact fin s'' M2 (Moved.trans W.gtrans ((mv.mono up).then_heap htk fun b o z e => off b (fun y => z (y ▸ .head _)) o e) mv2) g3 t3 kp2
end
end Nine
set_option maxHeartbeats 8000000
/-! K9V2: set(a list) called. -/
namespace Nine
open PySem PySem.Spec PyProof.Rows L2
section
variable {P : Program} {w : World} {α : Type} {m : Mem P w α} {R9 : Value → α → Prop} {ks : List α} {A : Around} {E : Value → Shared → Prop} {s : Shared}
theorem each_at {β γ : Type} {R : β → γ → Prop} : ∀ {l : List β} {r : List γ}, W.EachIs R l r → ∀ {i : Nat} {b : β}, l[i]? = some b → ∃ c, r[i]? = some c ∧ R b c
  | _, _, .nil, i, b, h => by simp at h
  | _, _, .cons h1 t, 0, b, h => by
    simp only [List.getElem?_cons_zero, Option.some.injEq] at h
    subst h
    exact ⟨_, rfl, h1⟩
  | _, _, .cons h1 t, i + 1, b, h => by
    simp only [List.getElem?_cons_succ] at h
    obtain ⟨c, e, r⟩ := each_at t h
    exact ⟨c, by simpa using e, r⟩
/-- behind set(..) -/
def Behind (m : Mem P w α) (R9 : Value → α → Prop) (ks : List α) (s s2 : Shared) : Prop := ∃ h' tk M, s2 = { s with heap := h', toks := tk } ∧ m.good h' s.heap.objs.size M ∧ Took m s.heap R9 ks ks.length M ∧ ∀ b o, s.heap.get? b = some o → h'.get? b = some o
theorem set_init {l : Addr} {its : Array Value} (hh : A.handled = none) (hl : s.heap.IsList l its) (he : W.EachIs (fun v k => m.is s.heap k v ∧ R9 v k) its.toList ks) (few : ks.length < 64) (hu : A.units + 8 < cLine) :
    wpAny (model P w) A (Builtin.«set.__init__» ⟨[.ref s.heap.objs.size, .ref l], []⟩) (fun fin s2 => fin = .done (.ret .none) ∧ Behind m R9 ks s s2) E { s with heap := s.heap.push (fSet w) } := by
  obtain ⟨ol, hol, hcl, nl, hdl⟩ := hl
  obtain ⟨ocls, odict, odata, oslots⟩ := ol
  simp only at hcl hdl
  subst hcl
  subst hdl
  have ho2 : (s.heap.push (fSet w)).get? l = some { cls := .type "list", dict := odict, data := .seq its nl, slots := oslots } := Heap.get?_push_of_some _ hol
  have z1 := F.sub_list_set
  have z2 := F.sub_list_frozenset
  have z3 : (Value.type "list" == Value.type "dict") = false := rfl
  have li : (s.heap.push (fSet w)).IsList l its := ⟨_, ho2, rfl, nl, rfl⟩
  unfold Builtin.«set.__init__»
  unfold noKeywords Builtin.Frozenset.updateFrom
  generalize hPI : pyIter = PY
  wp_walk
  subst hPI
  refine wpAny_pyIter_list li ?_
  refine wpAny_bind (wpAny_runValue ?_)
  have lt0 : l < s.heap.objs.size := Heap.lt_size hol
  have sz1 : (s.heap.push (fSet w)).objs.size = s.heap.objs.size + 1 := Heap.size_push ..
  have nI : l ≠ (s.heap.push (fSet w)).objs.size := by
    rw [sz1]
    exact Nat.ne_of_lt (Nat.lt_succ_of_lt lt0)
  have nS : s.heap.objs.size ∉ [(s.heap.push (fSet w)).objs.size, l] := by
    rw [sz1]
    intro z
    rcases List.mem_cons.mp z with z | z
    · exact absurd z (Nat.ne_of_lt (Nat.lt_succ_self _))
    · exact absurd (List.mem_singleton.mp z) (Nat.ne_of_gt lt0)
  have gone : ∀ b, s.heap.objs.size ≤ b → s.heap.get? b = none := fun b hb => by
    cases q : s.heap.get? b with
    | none => rfl
    | some o => exact absurd (Heap.lt_size q) (Nat.not_lt.mpr hb)
  have h3 : A.in1.handled = none := by simp [hh]
  refine up_loop (m := m) (h0 := s.heap) (R9 := R9) (ks := ks) ((Walks.list h3 _ l nI its).toS) nS (he.length ▸ rfl) few (fun i v e => ?_) (gone _ (Nat.le_refl _)) (fun b hb => gone b (by
      have e := List.mem_singleton.mp hb
      rw [e, sz1]
      exact Nat.le_succ _)) (by have e9 : A.in1.units = A.units + 1 := rfl; omega) (its.size - 0) 0 _ rfl (Nat.zero_le _) ⟨⟨_, Heap.get?_push_size _ rfl, rfl, rfl⟩, li.push _⟩
    (fun b o e => Heap.get?_push_of_some _ (Heap.get?_push_of_some _ e)) ⟨[], m.new (Heap.get?_push_of_some _ (Heap.get?_push_size _ rfl)), Took.nil⟩ fun s2 M mv g t kp => ?_
  · obtain ⟨k, e1, e2⟩ := each_at he (by rw [Array.getElem?_toList]; exact e)
    exact ⟨k, e1, e2⟩
  · obtain ⟨h2, g2, d2, t2, o2⟩ := s2
    have a1 : g2 = s.gens := mv.gens
    have a2 : d2 = s.drawn := mv.drawn
    have a3 : o2 = s.os := mv.os
    subst a1
    subst a2
    subst a3
    have ln : its.size = ks.length := by
      rw [← Array.length_toList]
      exact he.length
    rw [ln] at t
    exact wpAny_pure (wpAny_pure ⟨rfl, h2, t2, M, rfl, g, t, kp⟩)
theorem call_set9 {l : Addr} {its : Array Value} {Q : Value → Shared → Prop} (hh : A.handled = none) (hl : s.heap.IsList l its) (he : W.EachIs (fun v k => m.is s.heap k v ∧ R9 v k) its.toList ks) (few : ks.length < 64) (hu : A.units + 16 < cLine)
    (h : ∀ s2, Behind m R9 ks s s2 → Q (.ref s.heap.objs.size) s2) : wpAny (model P w) A (call (.type "set") [.ref l]) Q E s := by
  obtain ⟨c0, t0, z0⟩ := F.called_set.mro
  have z1 := F.called_set.made
  have z2 := F.called_set.sub
  have z3 := F.called_set.notType
  have z4 := F.called_set.canCreate
  have z5 := F.typeCall_set_1 (.ref l)
  refine wpAny_call (codeAny_of_tree (?_ : wpAny _ _ (callAny (.type "set") _) _ _ _))
  refine wpAny_pure ⟨Code.quiet_builtin _ (by decide +kernel), codeAny_builtin F.entry_type_call (?_ : wpAny _ (A.under _) _ _ _ _)⟩
  rw [Around.under_plain (weight_type_call_type "set" [.ref l] []) rfl]
  repeat any_goals first | assumption | wp_step
  refine codeAny_mono (code_set_led1 (.ref l) (E := E) (Q₁ := fun v s1 => v = .ref s.heap.objs.size ∧ s1 = { s with heap := s.heap.push (fSet w) }) ⟨rfl, rfl⟩) fun r s1 hr => ?_
  match r, hr with
  | .error e, hr => exact hr
  | .ok (.ret v), ⟨e1, e2⟩ =>
    subst e1
    subst e2
    have oS : (s.heap.push (fSet w)).get? s.heap.objs.size = some (fSet w) := Heap.get?_push_size _ rfl
    have ty : Shared.TypeIs { s with heap := s.heap.push (fSet w) } (.ref s.heap.objs.size) "set" := ⟨_, oS, rfl⟩
    have y1 := F.called_set.init.lookup
    have y2 := F.called_set.init.bind (.ref s.heap.objs.size)
    repeat any_goals first | assumption | wp_step
    refine codeAny_mono (codeAny_call_builtin (R := wants (fun r s2 => r = .none ∧ Behind m R9 ks s s2) E) F.called_set.init.plain F.entry_set_init (check_set_init_1 ty ?_)) fun r2 s2 hr2 => ?_
    · refine thn (set_init (m := m) (R9 := R9) (by simp [hh]) hl he few (by have e9 : A.in1.in1.units = A.units + 2 := rfl; omega)) fun fin s2 ⟨e, b⟩ => ?_
      subst e
      exact ⟨rfl, b⟩
    · match r2, hr2 with
      | .error e, hr2 => exact hr2
      | .ok (.ret v), ⟨e1, b⟩ =>
        subst e1
        repeat any_goals first | assumption | wp_step
        exact h _ b
end
end Nine
set_option maxHeartbeats 4000000
/-! K9V3: sorted(set(a list)), any kind of member. -/
namespace Nine
open PySem PySem.Spec PyProof.Rows L2
section
variable {X : Cx} {e : Expr} {ρ : List Sl} {pos p pos2 p2 : Pos} {α : Type} {lt : α → α → Bool} {f : α → T}
/-- a member of data is one of the kind -/
def Members (X : Cx) (m : Mem X.prog X.w α) (f : α → T) : Prop := ∀ pins σ H s, Inv X pins σ H s → ∀ v x k, RelV x v → Im X.K H x (f k) → m.is s.heap k v
def rSet (X : Cx) (f : α → T) (l : List α) : List V → Hp → VK → Prop := fun vs H Q => ∃ (a : Addr) (xs : List V), vs = [.ref a] ∧ SqL X.K H a xs ∧ ImAll X.K H xs (l.map f) ∧
  ∀ (p : Addr) (vals : List Value) (ys : List V) (ks : List α), H p = none → Vals ys vals → ImAll X.K H ys (ks.map f) → ks.Nodup → (∀ k, k ∈ ks ↔ k ∈ l) → Q (.ref p) (upd H p (svO X.w p vals))
theorem vals_split {K : PySem.W.Frag} {H : Hp} : ∀ {M : List (Value × α)}, (∀ x ∈ M, ∃ y, RelV y x.1 ∧ Im K H y (f x.2)) → ∃ ys, Vals ys (M.map Prod.fst) ∧ ImAll K H ys ((M.map Prod.snd).map f)
  | [], _ => ⟨[], .nil, .nil⟩
  | x :: M, h => by
    obtain ⟨y, r1, m1⟩ := h x (.head _)
    obtain ⟨ys, r2, m2⟩ := vals_split (M := M) fun z hz => h z (.tail _ hz)
    exact ⟨y :: ys, .cons r1 r2, .cons m1 m2⟩
theorem each_in {K : PySem.W.Frag} {H : Hp} {Q : Value → α → Prop} (hq : ∀ v x k, RelV x v → Im K H x (f k) → Q v k) : ∀ {its : List Value} {xs : List V} {l : List α}, Vals xs its → ImAll K H xs (l.map f) → W.EachIs (fun v a => Q v a ∧ ∃ x, RelV x v ∧ Im K H x (f a)) its l
  | its, xs, [], r, m => by
    cases m
    cases r
    exact .nil
  | its, xs, a :: l, r, m => by
    cases m with
    | cons m1 m2 =>
      cases r with
      | cons r1 r2 => exact .cons ⟨hq _ _ _ r1 m1, _, r1, m1⟩ (each_in hq r2 m2)
theorem cr_set9 {l : List α} (m : Mem X.prog X.w α) (his : Members X m f) (hc : X.calm = true) (hu : X.A.units + 64 < cLine) (few : l.length < 64) : CallR X (.type "set") (rSet X f l) := by
  intro pins s σ H vs us Q I r h
  obtain ⟨a, xs, rfl, hs, hm, q⟩ := h
  obtain ⟨its, rv, hl, hz⟩ := I.list hs
  rw [Vals.ref1 r]
  refine call_set9 (m := m) (R9 := fun v k => ∃ x, RelV x v ∧ Im X.K H x (f k)) (ks := l) (I.ok.hd hc) hl.isList (each_in (his pins σ H s I) rv hm) few (by omega) fun s2 ⟨h', tk, M, e, g, t, kp⟩ => ?_
  subst e
  obtain ⟨ys, r2, m2⟩ := vals_split (f := f) fun x hx => (t.sub x hx).2.2
  have sv := m.svals g
  have got : ∃ o, h'.get? s.heap.objs.size = some o := by
    obtain ⟨_, _, _, ⟨o, ho, _⟩, _⟩ := sv
    exact ⟨o, ho⟩
  have hp := I.hok.fresh (a := s.heap.objs.size) (Nat.le_refl _)
  refine ⟨.ref _, upd H s.heap.objs.size (svO X.w s.heap.objs.size (M.map Prod.fst)), I.laid (t' := tk) kp (Nat.le_refl _) ⟨sv, got, fun h1 h2 x k => x.at k⟩, rfl, q _ _ ys (M.map Prod.snd) hp r2 m2 t.nd fun k => ⟨fun hk => ?_, fun hk => ?_⟩⟩
  · obtain ⟨x, hx, e⟩ := List.mem_map.mp hk
    rw [← e]
    exact List.mem_of_mem_take (t.sub x hx).1
  · exact t.all k (by rw [List.take_length]; exact hk)
/-- sorted(set(e)) -/
theorem y_sset {l : List α} (m : Mem X.prog X.w α) (his : Members X m f) (L : Lin lt) (hlt : ∀ a b, ltD (f a) (f b) = lt a b) (hc : X.calm = true) (hu : X.A.units + 64 < cLine) (few : l.length < 64)
    (al : ∀ a b : α, W.alike (f a).d (f b).d = true) (so : ∀ l : List α, W.Sortable (l.map fun a => (f a).d)) (dp : ∀ a, (f a).d.depth ≤ 60)
    (h : PyS X e ρ (l.map f)) (hm : X.mg "sorted" = none) (hm2 : X.mg "set" = none) (hg : Gl X "sorted" := by rfl) (hg2 : Gl X "set" := by rfl)
    (he : starEach [e] X.env = (false, eval e X.env) :: starEach [] X.env := by rfl) (hpl : (backTo pos2 (starEach [] X.env)).any (·.1) = false := by rfl)
    (he2 : starEach [.Call (.Name "set" p2) [e] [] pos2] X.env = (false, eval (.Call (.Name "set" p2) [e] [] pos2) X.env) :: starEach [] X.env := by rfl) (hpl2 : (backTo pos (starEach [] X.env)).any (·.1) = false := by rfl) :
    PyL X (.Call (.Name "sorted" p) [.Call (.Name "set" p2) [e] [] pos2] [] pos) ρ ((ordU lt l).map f) := by
  have S : PyG X (.Call (.Name "set" p2) [e] [] pos2) ρ fun H v H' => ∃ (p : Addr) (vals : List Value) (ys : List V) (ks : List α), v = .ref p ∧ H' p = some (svO X.w p vals) ∧ Vals ys vals ∧ ImAll X.K H' ys (ks.map f) ∧ ks.Nodup ∧ ∀ k, k ∈ ks ↔ k ∈ l :=
    y_bt (cr_set9 (l := l) m his hc hu few) hm2 (by decide +kernel) (a1 h he) (fun H vs H1 Q s1 q1 q => by
      obtain ⟨v, rfl, a, xs, rfl, hs, hm⟩ := args1 q1
      refine ⟨a, xs, rfl, hs, hm, fun p vals ys ks hp r my nd hk => ?_⟩
      have sn : Same H1 (upd H1 p (svO X.w p vals)) := same_new hp
      exact q _ _ (s1.trans sn) ⟨p, vals, ys, ks, rfl, upd_same, r, my.mono sn, nd, hk⟩) hg2 (by decide) (by decide) he hpl
  refine PyG.of (pe_callB (cr_srtV (l := l) L hlt hc hu al so dp) hg hm (by decide +kernel) (pa_cons pe_g pa_g he2) (by decide) (by decide) he2 hpl2) fun σ H C B st => g_use S st fun v H1 s1 q1 => ga_use a_nil (st.mono s1) fun vs H2 s2 q2 => ?_
  obtain ⟨p, vals, ys, ks, rfl, hp, r, my, nd, hk⟩ := q1
  match vs, q2 with
  | [], _ =>
    refine ⟨p, vals, ys, ks, rfl, s2 _ _ hp, r, my.mono s2, nd, hk, fun p2 ys2 hn2 my2 => ?_⟩
    have sn : Same H2 (upd H2 p2 (.lst ys2)) := same_new hn2
    exact ⟨(s1.trans s2).trans sn, p2, ys2, rfl, (s1.trans s2).free hn2, upd_same, my2.mono sn⟩
end
end Nine
set_option maxHeartbeats 4000000
/-! K9V4: members that are found by a scan: ints, texts. -/
namespace Nine
open PySem PySem.Spec PyProof.Rows L2
section
variable {P : Program} {w : World} {α κ : Type} [DecidableEq κ] {knd : KeyKind P w κ} {g : α → κ}
def Goes (knd : KeyKind P w κ) (g : α → κ) (h : Heap) (a : Addr) (M : List (Value × α)) : Prop := ∃ o es ep t, h.get? a = some o ∧ o.ExactSet ∧ o.data = .set es ep t ∧ es.toList = M.map (fun x => (knd.hash (g x.2), x.1)) ∧
  (∀ x ∈ M, knd.is (g x.2) x.1 = true) ∧ (M.map Prod.snd).Nodup ∧ t.fits es.size = true ∧ M.length < 64 ∧ Ris t.place.toList ∧ (w.params.followText "set-order" = true ∨ t.led = true)
theorem each_fst {M : List (Value × α)} : W.EachIs (fun (e : Int × Value) x => e = (knd.hash (g x.2), x.1)) (M.map fun x => (knd.hash (g x.2), x.1)) M := by
  induction M with
  | nil => exact .nil
  | cons x M ih => exact .cons rfl ih
theorem each_eq {es : List (Int × Value)} {M : List (Value × α)} (h : W.EachIs (fun (e : Int × Value) x => e = (knd.hash (g x.2), x.1)) es M) : es = M.map fun x => (knd.hash (g x.2), x.1) := by
  induction h with
  | nil => rfl
  | cons h1 _ ih => rw [List.map_cons, ← ih, h1]
theorem perm_back {es : List (Int × Value)} {M : List (Value × α)} (p : es.Perm (M.map fun x => (knd.hash (g x.2), x.1))) : ∃ M1, List.Perm M1 M ∧ es = M1.map fun x => (knd.hash (g x.2), x.1) := by
  obtain ⟨M1, p1, e⟩ := each_perm p (each_fst (knd := knd) (g := g))
  exact ⟨M1, p1, each_eq e⟩
theorem scan_elems (sc : ∀ k v, knd.is k v = true → v.scannable = true) {M : List (Value × α)} (h : ∀ x ∈ M, knd.is (g x.2) x.1 = true) : ElemsOf knd (M.map fun x => (knd.hash (g x.2), x.1)) := fun e he => by
  obtain ⟨x, hx, q⟩ := List.mem_map.mp he
  subst q
  exact ⟨⟨g x.2, h x hx, rfl⟩, sc _ _ (h x hx)⟩
variable {A : Around} {E : Value → Shared → Prop} {s : Shared} {a : Addr} {M : List (Value × α)}
theorem scan_tail {gv : Bool → Sem Unit} (hg : ∀ (b : Bool) (s1 : Shared) (Q : Unit → Shared → Prop), Q () s1 → wpAny (model P w) A (gv b) Q E s1) {o : Obj} {es : Array (Int × Value)} {ep : Nat} {t : SetTable} (ho : s.heap.get? a = some o) (hx : o.ExactSet) (hd : o.data = .set es ep t)
    {es1 : Array (Int × Value)} {t2 : SetTable} (e1 : es1.toList = M.map fun x => (knd.hash (g x.2), x.1)) (h1 : ∀ x ∈ M, knd.is (g x.2) x.1 = true) (h2 : (M.map Prod.snd).Nodup) (h3 : M.length < 64) (hf : t2.fits es1.size = true) (hr : Ris t2.place.toList)
    (hl : w.params.followText "set-order" = true ∨ t2.led = true) {wd : Bool} {R : Option Bool → Shared → Prop} (hR : ∀ h' M', Heap.SameBut a s.heap h' → Goes knd g h' a M' → M'.Perm M → R (some true) { s with heap := h' }) :
    wpAny (model P w) A (storeSet a es1 t2 >>= fun _ => if (!wd && t2.tooFull) = true then (gv (relayAll t2 es1 (SetTable.grown es1.size)).2.2 >>= fun _ => storeSet a (relayAll t2 es1 (SetTable.grown es1.size)).1 (relayAll t2 es1 (SetTable.grown es1.size)).2.1 >>= fun _ => pure (some true)) else pure (some true)) R E s := by
  have z1 : es1.size = M.length := by
    rw [← Array.length_toList, e1, List.length_map]
  have b1 : es1.size < scanBound := by
    unfold scanBound
    omega
  refine wpAny_bind (wpAny_storeSet_of ho hd ?_ (fits_of_scanBound b1))
  have o1 := store_at (es' := es1) (t' := t2) ho hd
  have s1 := Heap.SameBut.update s.heap a (Obj.putSet es1 t2)
  by_cases c : (!wd && t2.tooFull) = true
  · rw [if_pos c]
    have pm := relayAll_perm t2 es1 (SetTable.grown es1.size)
    have f3 := relayAll_fits t2 es1 (SetTable.grown es1.size)
    have r3 := relayAll_ris t2 es1 (SetTable.grown es1.size)
    have l3 := relayAll_led t2 es1 (SetTable.grown es1.size)
    generalize relayAll t2 es1 (SetTable.grown es1.size) = Z at pm f3 r3 l3 ⊢
    obtain ⟨es2, t3, gave⟩ := Z
    dsimp only at pm f3 r3 l3 ⊢
    rw [e1] at pm
    obtain ⟨M2, p2, e2⟩ := perm_back pm
    have z2 : es2.size = M.length := by
      rw [← Array.length_toList, e2, List.length_map, p2.length_eq]
    refine wpAny_bind (hg _ _ _ (wpAny_bind (wpAny_storeSet_of o1 rfl (wpAny_pure (hR _ M2 (s1.trans (Heap.SameBut.update _ a _)) ?_ p2)) (fits_of_scanBound (by rw [z2, ← z1]; exact b1)))))
    exact ⟨_, es2, _, t3, store_at o1 rfl, hx, rfl, e2, fun x y => h1 x (p2.mem_iff.mp y), (p2.map Prod.snd).nodup_iff.mpr h2, f3, by rw [p2.length_eq]; exact h3, r3, hl.imp id fun z => l3.trans z⟩
  · rw [if_neg c]
    exact wpAny_pure (hR _ M s1 ⟨_, es1, _, t2, o1, hx, rfl, e1, h1, h2, hf, h3, hr, hl⟩ (.refl _))
end
end Nine
set_option maxHeartbeats 4000000
/-! K9V5: members that are found by a scan: the kind. -/
namespace Nine
open PySem PySem.Spec PyProof.Rows L2
section
variable {P : Program} {w : World} {α κ : Type} [DecidableEq κ] {knd : KeyKind P w κ} {g : α → κ} {A : Around} {E : Value → Shared → Prop} {s : Shared} {a : Addr} {M : List (Value × α)}
theorem scan_put (gi : ∀ x y, g x = g y → x = y) (sc : ∀ k v, knd.is k v = true → v.scannable = true) {v : Value} {k : α} {Q : Bool → Shared → Prop} (G : Goes knd g s.heap a M) (hv : knd.is (g k) v = true) (few : M.length + 1 < 64)
    (hQ : ∀ b h' M', Heap.SameBut a s.heap h' → Goes knd g h' a M' → (k ∈ M.map Prod.snd → M' = M) → (k ∉ M.map Prod.snd → M'.Perm ((v, k) :: M)) → Q b { s with heap := h' }) :
    wpAny (model P w) A (setAddHashed a v (knd.hash (g k))) Q E s := by
  obtain ⟨o, es, ep, t, ho, hx, hd, he, h1, h2, hf, h3, hr, hl⟩ := id G
  have el : ElemsOf knd es.toList := by
    rw [he]
    exact scan_elems sc h1
  have z : es.size = M.length := by rw [← Array.length_toList, he, List.length_map]
  have hb : es.size < scanBound := by
    unfold scanBound
    omega
  have hs := sc _ _ hv
  have mem : (∃ e ∈ es.toList, knd.is (g k) e.2 = true) ↔ k ∈ M.map Prod.snd := by
    rw [he]
    constructor
    · rintro ⟨e, y, q⟩
      obtain ⟨x, hx, rfl⟩ := List.mem_map.mp y
      have := gi _ _ (knd.inj _ _ _ (h1 x hx) q)
      exact List.mem_map.mpr ⟨x, hx, this⟩
    · intro y
      obtain ⟨x, hx, rfl⟩ := List.mem_map.mp y
      exact ⟨_, List.mem_map.mpr ⟨x, hx, rfl⟩, h1 x hx⟩
  unfold setAddHashed setAddHashedIn
  refine wpAny_holding (wpAny_bind (wpAny_setState_of ho hd hf ?_))
  dsimp only
  rw [byScan_of hs hb el, if_pos rfl]
  unfold setAddByScan
  refine wpAny_bind (wpAny_bind (wpAny_rule (wpAny_bind (wpAny_setScan_of hv ho hd hf el ?_))))
  cases fi : List.findIdx? (fun e => knd.is (g k) e.2) es.toList with
  | some j =>
    obtain ⟨hj, pj, _⟩ := List.findIdx?_eq_some_iff_getElem.mp fi
    have yes := mem.mp ⟨_, List.getElem_mem hj, pj⟩
    exact wpAny_pure (wpAny_pure (hQ false s.heap M (Heap.SameBut.refl a s.heap) G (fun _ => rfl) fun no => absurd yes no))
  | none =>
    have no : k ∉ M.map Prod.snd := fun y => by
      obtain ⟨e, e1, e2⟩ := mem.mpr y
      have := List.findIdx?_eq_none_iff.mp fi e e1
      rw [e2] at this
      cases this
    have way : ∀ (b : Bool) (s1 : Shared) (Q : Unit → Shared → Prop), Q () s1 → wpAny (model P w) A (match b with | true => rule "set.scan.the-table-gave-way" | false => pure ()) Q E s1 := fun b s1 Q q => by
      cases b
      · exact wpAny_pure q
      · exact wpAny_rule q
    have pm := layNew_perm t es (knd.hash (g k)) v
    have f1 := layNew_fits t es (knd.hash (g k)) v
    have r1 := layNew_ris t es (knd.hash (g k)) v hr
    have l1 := layNew_led t es (knd.hash (g k)) v
    dsimp only
    generalize layNew t es (knd.hash (g k)) v = Z at pm f1 r1 l1 ⊢
    obtain ⟨es1, t1, wd, gave⟩ := Z
    dsimp only at pm f1 r1 l1 ⊢
    rw [Array.toList_push, he] at pm
    have pm2 : es1.toList.Perm (((v, k) :: M).map fun x => (knd.hash (g x.2), x.1)) := pm.trans (List.perm_append_singleton _ _)
    obtain ⟨M1, p1, e1⟩ := perm_back pm2
    have g1 : ∀ x ∈ M1, knd.is (g x.2) x.1 = true := fun x y => by
      rcases List.mem_cons.mp (p1.mem_iff.mp y) with q | q
      · rw [q]
        exact hv
      · exact h1 x q
    have n1 : (M1.map Prod.snd).Nodup := (p1.map Prod.snd).nodup_iff.mpr (List.nodup_cons.mpr ⟨no, h2⟩)
    have c1 : M1.length < 64 := by
      rw [p1.length_eq]
      exact few
    have ld : w.params.followText "set-order" = true ∨ t1.led = true := hl.imp id fun z => l1.trans z
    have fin : ∀ h' M', Heap.SameBut a s.heap h' → Goes knd g h' a M' → M'.Perm M1 → Q true { s with heap := h' } := fun h' M' sb G' p => hQ true h' M' sb G' (fun y => absurd y no) fun _ => p.trans p1
    refine wpAny_bind (way _ _ _ ?_)
    by_cases pl : t1.plain = true
    · rw [if_pos pl]
      refine wpAny_bind ?_
      rw [hashByValue_scannable 8 hs]
      refine wpAny_pure ?_
      refine scan_tail (g := g) (knd := knd) (M := M1) ?_ ho hx hd e1 g1 n1 c1 ?_ ?_ ?_ fun h' M' sb G' p => wpAny_pure (fin h' M' sb G' p)
      · intro b s1 Q q
        cases b
        · exact wpAny_pure q
        · exact wpAny_rule q
      · split
        · exact f1
        · exact SetTable.fits_plain_off f1
      · split <;> exact r1
      · split <;> exact ld
    · rw [if_neg pl]
      refine wpAny_bind (wpAny_pure ?_)
      rw [if_pos rfl]
      refine scan_tail (g := g) (knd := knd) (M := M1) ?_ ho hx hd e1 g1 n1 c1 f1 r1 ld fun h' M' sb G' p => wpAny_pure (fin h' M' sb G' p)
      intro b s1 Q q
      cases b
      · exact wpAny_pure q
      · exact wpAny_rule q
end
end Nine
set_option maxHeartbeats 4000000
/-! K9V6: set_of of ints and texts. -/
namespace Nine
open PySem PySem.Spec PyProof.Rows L2
section
variable {P : Program} {w : World} {α κ : Type} [DecidableEq κ]
def scanMem (knd : KeyKind P w κ) (g : α → κ) (gi : ∀ x y, g x = g y → x = y) (sc : ∀ k v, knd.is k v = true → v.scannable = true) : Mem P w α where
  is := fun _ k v => knd.is (g k) v = true
  good := Goes knd g
  stay := fun h _ => h
  svals := fun {h a M} G => by
    obtain ⟨o, es, ep, t, ho, hx, hd, he, h1, h2, hf, h3, hr, hl⟩ := G
    refine ⟨es, ep, t, ⟨o, ho, hx.1, hd⟩, ?_, hf, ?_, hr, hl⟩
    · rw [he, List.map_map]
      rfl
    · rw [← Array.length_toList, he, List.length_map]
      exact h3
  keep := fun {h h' a M} G k _ => by
    obtain ⟨o, es, ep, t, ho, r⟩ := G
    exact ⟨o, es, ep, t, k o ho, r⟩
  new := fun {h a} ho => ⟨_, #[], 0, _, ho, ⟨rfl, rfl, rfl⟩, rfl, rfl, fun x hx => (by cases hx), List.nodup_nil, by rfl, by show 0 < 64; decide, List.Pairwise.nil, by
    show _ ∨ (!w.params.followText "set-order") = true
    cases w.params.followText "set-order"
    · exact .inr rfl
    · exact .inl rfl⟩
  put := fun {A E s a M v k Q} hu G hv few hQ => by
    unfold setAdd
    exact wpAny_holding (wpAny_bind (knd.pyHash hv (scan_put (s := { s with toks := s.toks + 1 }) gi sc G hv few fun b h' M' sb G' c1 c2 => hQ b h' M' _ (Nat.le_succ _) sb G' c1 c2)))
variable {X : Cx} {e : Expr} {ρ : List Sl} {pos p pos2 p2 : Pos}
def natMem (P : Program) (w : World) : Mem P w Nat := scanMem (intKind P w) (fun n => (n : Int)) (fun x y h => Int.ofNat.inj h) (fun k v h => by obtain ⟨t, rfl⟩ := Value.isInt_shape h; rfl)
def strMem (P : Program) (w : World) : Mem P w Str := scanMem (strKind P w) (fun x => x) (fun x y h => h) (fun k v h => by obtain ⟨t, rfl⟩ := Value.isStrOf_shape h; rfl)
theorem nat_in : Members X (natMem X.prog X.w) natT := fun pins σ H s I v x k r m => by
  rw [show x = .int (k : Int) from m.int_eq] at r
  obtain ⟨t, rfl⟩ := r
  exact intKind_is X.prog X.w k t
theorem str_in : Members X (strMem X.prog X.w) T.str := fun pins σ H s I v x k r m => by
  rw [show x = .str k from m.str_eq] at r
  obtain ⟨t, rfl⟩ := r
  exact strKind_is X.prog X.w k t
theorem y_ssetN {l : List Nat} (hc : X.calm = true) (hu : X.A.units + 64 < cLine) (few : l.length < 64) (h : PyS X e ρ (l.map natT)) (hm : X.mg "sorted" = none) (hm2 : X.mg "set" = none) (hg : Gl X "sorted" := by rfl) (hg2 : Gl X "set" := by rfl)
    (he : starEach [e] X.env = (false, eval e X.env) :: starEach [] X.env := by rfl) (hpl : (backTo pos2 (starEach [] X.env)).any (·.1) = false := by rfl)
    (he2 : starEach [.Call (.Name "set" p2) [e] [] pos2] X.env = (false, eval (.Call (.Name "set" p2) [e] [] pos2) X.env) :: starEach [] X.env := by rfl) (hpl2 : (backTo pos (starEach [] X.env)).any (·.1) = false := by rfl) :
    PyL X (.Call (.Name "sorted" p) [.Call (.Name "set" p2) [e] [] pos2] [] pos) ρ ((ordU ltN l).map natT) :=
  y_sset (natMem X.prog X.w) nat_in lin_nat ltD_nat hc hu few (fun a b => by simp [natT, T.d, W.alike]) (fun l => .others fun b => ⟨by simp [natT, T.d], fun xs => by simp [natT, T.d]⟩) (fun a => by simp [natT, T.d, PyData.depth]) h hm hm2 hg hg2 he hpl he2 hpl2
theorem y_ssetS {l : List Str} (hc : X.calm = true) (hu : X.A.units + 64 < cLine) (few : l.length < 64) (h : PyS X e ρ (l.map T.str)) (hm : X.mg "sorted" = none) (hm2 : X.mg "set" = none) (hg : Gl X "sorted" := by rfl) (hg2 : Gl X "set" := by rfl)
    (he : starEach [e] X.env = (false, eval e X.env) :: starEach [] X.env := by rfl) (hpl : (backTo pos2 (starEach [] X.env)).any (·.1) = false := by rfl)
    (he2 : starEach [.Call (.Name "set" p2) [e] [] pos2] X.env = (false, eval (.Call (.Name "set" p2) [e] [] pos2) X.env) :: starEach [] X.env := by rfl) (hpl2 : (backTo pos (starEach [] X.env)).any (·.1) = false := by rfl) :
    PyL X (.Call (.Name "sorted" p) [.Call (.Name "set" p2) [e] [] pos2] [] pos) ρ ((ordU ltS l).map T.str) :=
  y_sset (strMem X.prog X.w) str_in lin_str ltD_str hc hu few (fun a b => by simp [T.d, W.alike]) (fun l => .others fun b => ⟨by simp [T.d], fun xs => by simp [T.d]⟩) (fun a => by simp [T.d, PyData.depth]) h hm hm2 hg hg2 he hpl he2 hpl2
end
end Nine
set_option maxHeartbeats 4000000
/-! K9V7: set_of, the law's kinds. -/
namespace Nine
open PySem PySem.Spec PyProof.Rows L2
section
variable {P : Program} {w : World} {K : PySem.W.Frag} {mg : Str → Option Value} {base : Heap}
theorem ok_set_n (E : E9 K mg) {k : Nat} : Ok9 P w base (k + 1) E.f_set_of r_set_n := ok9 sc_set_of fun cdv A outer s H Ex as r hr hl h => by
  obtain ⟨ns, few, rfl, rfl⟩ := h
  exact ru_ret (x := .t (.tup ((ordU ltN ns).map natT))) (y_tupleL (PyN.arg (y_ssetN rfl hr.units few (yl 0) E.b_sorted E.b_set)) E.b_tuple) rfl
theorem ok_set_s (E : E9 K mg) {k : Nat} : Ok9 P w base (k + 1) E.f_set_of r_set_s := ok9 sc_set_of fun cdv A outer s H Ex as r hr hl h => by
  obtain ⟨xs, few, rfl, rfl⟩ := h
  exact ru_ret (x := .t (.tup ((ordU ltS xs).map T.str))) (y_tupleL (PyN.arg (y_ssetS rfl hr.units few (yl 0) E.b_sorted E.b_set)) E.b_tuple) rfl
theorem ok_l_kinds (E : E9 K mg) {k : Nat} : Ok9 P w base (k + 1) E.f_l_kinds r_l_kinds := ok9 sc_l_kinds fun cdv A outer s H Ex as r hr hl h => by
  obtain ⟨fl, o, rfl, rfl⟩ := h
  have hf := o.few
  refine ru_ret (x := .t (.tup ((clsL fl).map T.str))) (y_tupleL (PyN.arg (y_ssetS (l := fl.map Dev.cls) rfl hr.units (by rw [List.length_map]; omega) (PyN.arg (x := .s ((fl.map Dev.cls).map T.str)) ?q) E.b_sorted E.b_set)) E.b_tuple) rfl
  case q =>
    refine PyL.eq (y_lm (own := [("_law_own", 1)]) fl Dev.t (fun d => .str d.cls) [1] rfl sc_l_kinds.nd ((i_tup (yv 0)).c) (blkOk_by (N := n_l_kinds) (sc := defScope s_l_kinds) (by decide +kernel)) (by decide)
      fun d hd => ⟨_, fun s H C cl fp => ⟨g_name 1 sc_l_kinds.nd, y_fc 1 (yv 1)⟩⟩) ?_
    rw [List.map_map]; rfl
end
end Nine
set_option maxHeartbeats 4000000
/-! K9W: sets of tuples of ints and texts: the small questions. -/
namespace Nine
open PySem PySem.Spec PyProof.Rows L2
abbrev MixT (P : Program) (w : World) (h : Heap) (k : List Key) (a : Addr) : Prop := IsTupleKey (mixKind P w) h k a
abbrev mixH (P : Program) (w : World) (k : List Key) : Int := tupleKeyHash (mixKind P w) k
section
variable {P : Program} {w : World} {A : Around} {E : Value → Shared → Prop} {s : Shared}
/-- an int or a text -/
def Flat (v : Value) : Prop := (∃ i t, v = .int i t) ∨ ∃ x t, v = .str x t
theorem flat_items {k : List Key} {vs : List Value} (h : ItemsAre (mixKind P w) k vs) : ∀ v ∈ vs, Flat v := by
  induction h with
  | nil => exact fun v y => nomatch y
  | cons h1 _ ih =>
    intro v y
    rcases List.mem_cons.mp y with q | q
    · rw [q]
      rcases keyIs_shape h1 with ⟨i, t, _, e⟩ | ⟨x, t, _, e⟩
      · exact .inl ⟨i, t, e⟩
      · exact .inr ⟨x, t, e⟩
    · exact ih v q
theorem flat_class {v : Value} (h : Flat v) (n : Nat) : ofAClassStatement n v = pure false := by
  rcases h with ⟨i, t, rfl⟩ | ⟨x, t, rfl⟩
  · cases n <;> rfl
  · cases n <;> rfl
theorem flat_hash {v : Value} (h : Flat v) (n : Nat) : ∃ b, hashByValue n v = pure b := by
  rcases h with ⟨i, t, rfl⟩ | ⟨x, t, rfl⟩
  · exact ⟨_, hashByValue_scannable n rfl⟩
  · exact ⟨_, hashByValue_scannable n rfl⟩
theorem mix_class {k : List Key} {b : Addr} {Q : Bool → Shared → Prop} (hk : MixT P w s.heap k b) (h : Q false s) : wpAny (model P w) A (ofAClassStatement 8 (.ref b)) Q E s := by
  have ty := hk.typeIs
  obtain ⟨o, its, n, ho, _, hd, hi⟩ := hk
  unfold ofAClassStatement
  refine wpAny_bind (wpAny_typeOf ty ?_)
  dsimp only
  rw [show (("tuple" : String) == "tuple") = true from rfl]
  simp only [if_true, Bool.not_true, Bool.false_eq_true, if_false]
  try refine wpAny_bind (wpAny_pure ?_)
  show wpAny _ _ (seqItems? (.ref b) >>= _) _ _ s
  refine wpAny_bind (wpAny_seqItems ho hd ?_)
  dsimp only
  refine wpAny_bind (?_ : wpAny _ _ (forIn its _ _) _ _ s)
  rw [← Array.forIn_toList]
  refine wpAny_forIn_list _ (fun rest r s2 => r.1 = none ∧ s2 = s ∧ ∀ v ∈ rest, Flat v) _ (fun v rest r s2 ⟨e1, e2, all⟩ => ?_) (fun r s2 ⟨e1, e2, _⟩ => ?_) _ _ ⟨rfl, rfl, flat_items hi⟩
  · subst e2
    rw [flat_class (all v (.head _))]
    refine wpAny_bind (wpAny_pure ?_)
    rw [if_neg Bool.false_ne_true]
    exact wpAny_pure ⟨rfl, rfl, fun u y => all u (.tail _ y)⟩
  · subst e2
    obtain ⟨r1, r2⟩ := r
    subst e1
    exact wpAny_pure h
theorem mix_hash {k : List Key} {b : Addr} {Q : Bool → Shared → Prop} (hk : MixT P w s.heap k b) (h : ∀ c, Q c s) : wpAny (model P w) A (hashByValue 8 (.ref b)) Q E s := by
  have ty := hk.typeIs
  obtain ⟨o, its, n, ho, _, hd, hi⟩ := hk
  unfold hashByValue
  refine wpAny_bind (wpAny_specialOf ty F.slot_tuple_hash.lookup ?_)
  show wpAny _ _ (seqItems? (.ref b) >>= _) _ _ s
  refine wpAny_bind (wpAny_seqItems ho hd ?_)
  refine wpAny_bind (?_ : wpAny _ _ (forIn its _ _) _ _ s)
  rw [← Array.forIn_toList]
  refine wpAny_forIn_list _ (fun rest r s2 => s2 = s ∧ ∀ v ∈ rest, Flat v) _ (fun v rest r s2 ⟨e2, all⟩ => ?_) (fun r s2 ⟨e2, _⟩ => ?_) _ _ ⟨rfl, flat_items hi⟩
  · subst e2
    obtain ⟨c, e⟩ := flat_hash (all v (.head _)) 7
    rw [e]
    refine wpAny_bind (wpAny_pure ?_)
    cases c
    · exact wp_if_pos rfl (wpAny_pure (wpAny_pure (h false)))
    · rw [if_neg (by decide)]
      exact wpAny_pure ⟨rfl, fun u y => all u (.tail _ y)⟩
  · subst e2
    obtain ⟨r1, r2⟩ := r
    cases r1
    · exact wpAny_pure (h _)
    · exact wpAny_pure (h _)
/-- the search among such tuples shows nothing -/
theorem mix_unseen {k : List Key} {b : Addr} {Q : Bool → Shared → Prop} (hk : MixT P w s.heap k b) {ys : List Value} (hy : ∀ y ∈ ys, ∃ k' c, y = Value.ref c ∧ MixT P w s.heap k' c) (h : Q false s) : wpAny (model P w) A (searchCouldBeSeen (.ref b) ys) Q E s := by
  unfold searchCouldBeSeen
  refine wpAny_bind ?_
  refine wpAny_forIn_list _ (fun rest r s2 => r.1 = none ∧ s2 = s ∧ ∀ y ∈ rest, ∃ k' c, y = Value.ref c ∧ MixT P w s.heap k' c) _ (fun v rest r s2 ⟨e1, e2, all⟩ => ?_) (fun r s2 ⟨e1, e2, _⟩ => ?_) _ _ ⟨rfl, rfl, hy⟩
  · subst e2
    obtain ⟨k', c, e, hc⟩ := all v (.head _)
    subst e
    dsimp only
    have done : (none : Option Bool) = none ∧ s2 = s2 ∧ ∀ y ∈ rest, ∃ k' c, y = Value.ref c ∧ MixT P w s2.heap k' c := ⟨rfl, rfl, fun u y => all u (.tail _ y)⟩
    by_cases q : (b == c || (carriedByValue (.ref b) && carriedByValue (.ref c))) = true
    · exact wp_if_pos q (wpAny_pure done)
    · refine wp_if_neg q (wpAny_bind (wpAny_eqIsQuiet_tuple hk ?_))
      rw [if_neg (by decide)]
      refine wpAny_bind (wpAny_eqIsQuiet_tuple hc ?_)
      rw [if_neg (by decide)]
      refine wpAny_bind (mix_class hk ?_)
      rw [if_neg (by decide)]
      refine wpAny_bind (mix_class hc ?_)
      rw [if_neg (by decide)]
      exact wpAny_pure done
  · subst e2
    obtain ⟨r1, r2⟩ := r
    subst e1
    exact wpAny_pure h
end
end Nine
set_option maxHeartbeats 4000000
/-! K9W2: sets of tuples of ints and texts: the search. -/
namespace Nine
open PySem PySem.Spec PyProof.Rows L2
abbrev stp (t : SetTable) (H : Int) (c : Nat) : SetTable.Probe := nth t.mask (runAt t.mask (SetTable.bits H % (t.mask + 1)) (SetTable.bits H)) c
structure MixS (P : Program) (w : World) {α : Type} (g : α → List Key) (h : Heap) (a : Addr) (M : List (Value × α)) (es : Array (Int × Value)) (ep : Nat) (t : SetTable) : Prop where
  ob : ∃ o, h.get? a = some o ∧ o.ExactSet ∧ o.data = .set es ep t
  rows : es.toList = M.map fun x => (mixH P w (g x.2), x.1)
  tab : TabOk t (M.map fun x => mixH P w (g x.2))
  nd : (M.map Prod.snd).Nodup
  tup : ∀ x ∈ M, ∃ b, x.1 = .ref b ∧ MixT P w h (g x.2) b
  led : w.params.followText "set-order" = true ∨ t.led = true
  room : M.length * 5 < t.mask * 3
  few : M.length < 64
section
variable {P : Program} {w : World} {A : Around} {E : Value → Shared → Prop} {s : Shared} {α : Type} {g : α → List Key} {a : Addr} {M : List (Value × α)} {es : Array (Int × Value)} {ep : Nat} {t : SetTable}
theorem MixS.size (R : MixS P w g s.heap a M es ep t) : es.size = M.length := by
  rw [← Array.length_toList, R.rows, List.length_map]
theorem MixS.fits (R : MixS P w g s.heap a M es ep t) : t.fits es.size = true := by
  have z1 := R.tab.sz
  rw [List.length_map] at z1
  have z2 := R.size
  have z3 := R.room
  unfold SetTable.fits SetTable.fill
  rw [R.tab.dm, Bool.and_eq_true, beq_iff_eq, decide_eq_true_eq]
  exact ⟨z1.trans z2.symm, by show t.place.size + 0 ≤ t.mask; omega⟩
theorem MixS.at (R : MixS P w g s.heap a M es ep t) {i : Nat} {x : Value × α} (h : M[i]? = some x) : es[i]? = some (mixH P w (g x.2), x.1) := by
  rw [← Array.getElem?_toList, R.rows, List.getElem?_map, h]
  rfl
theorem stp_quiet (t : SetTable) (H : Int) (c : Nat) : (stp t H c).dummy = none := by
  have key : ∀ (n : Nat) (p : SetTable.Probe), p.dummy = none → (nth t.mask p n).dummy = none := fun n => by
    induction n with
    | zero => exact fun p h => h
    | succ n ih => exact fun p h => ih (adv t.mask p) (by unfold adv; split <;> exact h)
  exact key c _ rfl
theorem mix_search (gi : ∀ x y, g x = g y → x = y) (R : MixS P w g s.heap a M es ep t) {x : Addr} {k : α} (hx : MixT P w s.heap (g k) x) (hu : A.units < cLine) {N : Nat} (hNf : N < 10 * SetTable.turns t.mask)
    (hN : way t.mask (mixH P w (g k)) N ∉ t.place.toList) (hNb : ∀ c, c < N → way t.mask (mixH P w (g k)) c ∈ t.place.toList) {Q : SetFound → Shared → Prop}
    (yes : k ∈ M.map Prod.snd → Q (.there none) s) (no : k ∉ M.map Prod.snd → Q (.free (way t.mask (mixH P w (g k)) N) false) s) :
    ∀ (f c : Nat) (stand : Option SetTable.Probe), stand.getD (t.probeStart (mixH P w (g k))) = stp t (mixH P w (g k)) c → c ≤ N → N - c < f →
      (∀ (i : Nat) y, M[i]? = some y → y.2 = k → ∃ c', c ≤ c' ∧ c' < N ∧ t.place.toList[i]? = some (way t.mask (mixH P w (g k)) c')) →
      wpAny (model P w) A (setSearchFrom a (.ref x) (mixH P w (g k)) true f stand) Q E s := by
  intro f
  induction f with
  | zero => exact fun c stand _ _ hf _ => absurd hf (Nat.not_lt_zero _)
  | succ f ih =>
    intro c stand hst hc hf hre
    obtain ⟨o, ho, hex, hd⟩ := R.ob
    generalize hH : mixH P w (g k) = Hk at *
    rw [setSearchFrom_succ]
    refine wpAny_bind (wpAny_setState_of ho hd R.fits ?_)
    dsimp only
    refine wp_if_neg (by unfold SetTable.gaveWay; rw [mask_odd R.tab.mok]; decide) ?_
    have sh : ∀ q, nth t.mask (stp t Hk c) q = stp t Hk (c + q) := fun q => (nth_add t.mask c _ q).symm
    have sj : ∀ q, (nth t.mask (stp t Hk c) q).j = way t.mask Hk (c + q) := fun q => congrArg SetTable.Probe.j (sh q)
    have spec := go_spec t R.tab.ris R.tab.dm (fun i => (es[i]?.map (·.1)).getD 0) Hk (10 * SetTable.turns t.mask) (N - c) _ (stp_quiet t Hk c) (by omega)
      (fun q hq => by rw [sj]; exact hNb (c + q) (by omega)) (by rw [sj, show c + (N - c) = N by omega]; exact hN)
    have hat : ∀ (i : Nat) y, M[i]? = some y → (fun i => (es[i]?.map (·.1)).getD 0) i = mixH P w (g y.2) := fun i y hy => by
      show (es[i]?.map (·.1)).getD 0 = _
      rw [R.at hy]
      rfl
    rcases spec with ⟨q, i, hq, hi, hh, hno, hpr⟩ | ⟨hno, hpr⟩
    · have pr : t.probe (fun i => (es[i]?.map (·.1)).getD 0) Hk (stand.getD (t.probeStart Hk)) = some (.candidate (way t.mask Hk (c + q)) i (stp t Hk (c + (q + 1)))) := by
        rw [hst, ← sj, ← sh]
        exact hpr
      rw [pr]
      dsimp only
      rw [sj] at hi
      have il : i < M.length := by
        have z1 : i < t.place.toList.length := (List.getElem?_eq_some_iff.mp hi).1
        have z2 := R.tab.sz
        rw [List.length_map] at z2
        rw [Array.length_toList] at z1
        omega
      obtain ⟨y, hy⟩ : ∃ y, M[i]? = some y := ⟨_, List.getElem?_eq_getElem il⟩
      have ym := List.mem_of_getElem? hy
      obtain ⟨b, eb, hb⟩ := R.tup y ym
      have rest : wpAny (model P w) A (searchRest a (.ref x) Hk true f es t (way t.mask Hk (c + q)) i (stp t Hk (c + (q + 1)))) Q E s := by
        unfold searchRest
        rw [R.at hy]
        dsimp only
        rw [eb]
        refine wpAny_bind (wpAny_holding (wpAny_eqBool_tuple hu hb hx ?_))
        refine wpAny_bind (wpAny_setState_of ho hd R.fits ?_)
        dsimp only
        by_cases ek : y.2 = k
        · refine wp_if_pos (by simp [ek]) (wpAny_pure (yes (List.mem_map.mpr ⟨y, ym, ek⟩)))
        · have ne : g y.2 ≠ g k := fun z => ek (gi _ _ z)
          refine wp_if_neg (by simp [ne]) ?_
          rw [sameMem]
          dsimp only
          have sl : t.slot (way t.mask Hk (c + q)) = .live i := slot_live R.tab.ris hi
          simp only [if_true, sl, R.at hy, eb]
          refine wpAny_bind (wpAny_isSame_ref_self (wpAny_bind (wpAny_pure ?_)))
          simp only [if_true]
          refine wp_if_neg (by simp [ne]) (ih (c + (q + 1)) _ rfl (by omega) (by omega) fun i0 y0 h0 e0 => ?_)
          obtain ⟨c', a1, a2, a3⟩ := hre i0 y0 h0 e0
          refine ⟨c', ?_, a2, a3⟩
          have hk0 : (fun i => (es[i]?.map (·.1)).getD 0) i0 = Hk := (hat i0 y0 h0).trans (by rw [e0, hH])
          rcases Nat.lt_trichotomy c' (c + q) with z | z | z
          · exact absurd hk0 (hno (c' - c) i0 (by omega) (by rw [sj, show c + (c' - c) = c' by omega]; exact a3))
          · exfalso
            rw [z] at a3
            have s0 := slot_live R.tab.ris a3
            rw [sl] at s0
            injection s0 with s0
            rw [← s0, hy] at h0
            exact ek ((congrArg Prod.snd (Option.some.inj h0)).trans e0)
          · omega
      by_cases hl : t.led = true
      · exact wp_if_neg (by simp [hl]) rest
      · refine wp_if_pos (by simp [hl]) (wpAny_bind (mix_unseen hx (fun v hv => ?_) (wp_if_neg (by decide) rest)))
        obtain ⟨e, he, ee⟩ := List.mem_map.mp hv
        have he1 : e ∈ es ∧ e.1 = Hk := by simpa using he
        have he2 : e ∈ es.toList := by simpa using he1.1
        rw [R.rows] at he2
        obtain ⟨y2, hy2, e2⟩ := List.mem_map.mp he2
        obtain ⟨b2, eb2, hb2⟩ := R.tup y2 hy2
        exact ⟨g y2.2, b2, by rw [← ee, ← e2]; exact eb2, hb2⟩
    · have pr : t.probe (fun i => (es[i]?.map (·.1)).getD 0) Hk (stand.getD (t.probeStart Hk)) = some (.empty (way t.mask Hk N) none) := by
        have e2 : way t.mask Hk N = (nth t.mask (stp t Hk c) (N - c)).j := by rw [sj, show c + (N - c) = N by omega]
        rw [hst, e2]
        exact hpr
      rw [pr]
      dsimp only
      refine wpAny_pure (no fun hm => ?_)
      obtain ⟨y0, h0, e0⟩ := List.mem_map.mp hm
      obtain ⟨i0, hi0, ee⟩ := List.getElem_of_mem h0
      have h00 : M[i0]? = some y0 := by rw [List.getElem?_eq_getElem hi0, ee]
      obtain ⟨c', a1, a2, a3⟩ := hre i0 y0 h00 e0
      exact hno (c' - c) i0 (by omega) (by rw [sj, show c + (c' - c) = c' by omega]; exact a3) ((hat i0 y0 h00).trans (by rw [e0, hH]))
end
end Nine
set_option maxHeartbeats 4000000
/-! K9W3: sets of tuples of ints and texts: the search asked, the table laid anew. -/
namespace Nine
open PySem PySem.Spec PyProof.Rows L2
section
variable {P : Program} {w : World} {A : Around} {E : Value → Shared → Prop} {s : Shared} {α : Type} {g : α → List Key} {a : Addr} {M : List (Value × α)} {es : Array (Int × Value)} {ep : Nat} {t : SetTable}
theorem mix_search_at (gi : ∀ x y, g x = g y → x = y) (R : MixS P w g s.heap a M es ep t) {x : Addr} {k : α} (hx : MixT P w s.heap (g k) x) (hu : A.units < cLine) {Q : SetFound → Shared → Prop} (yes : k ∈ M.map Prod.snd → Q (.there none) s)
    (no : ∀ N, k ∉ M.map Prod.snd → way t.mask (mixH P w (g k)) N ∉ t.place.toList → (∀ c, c < N → way t.mask (mixH P w (g k)) c ∈ t.place.toList) → Q (.free (way t.mask (mixH P w (g k)) N) false) s) :
    wpAny (model P w) A (setSearch a (.ref x) (mixH P w (g k)) true) Q E s := by
  have room := R.room
  obtain ⟨N, n1, n2, n3⟩ := R.tab.first (by rw [List.length_map]; omega) (mixH P w (g k))
  have big : N < 100000 := by
    have : 10 * SetTable.turns t.mask ≤ 1420 := by
      unfold SetTable.turns
      rcases R.tab.mok with e | e | e <;> omega
    omega
  unfold setSearch
  refine mix_search gi R hx hu n1 n2 n3 yes (fun z => no N z n2 n3) 100000 0 none rfl (Nat.zero_le _) (by omega) fun i y hy ek => ?_
  have hi : (M.map fun x => mixH P w (g x.2))[i]? = some (mixH P w (g k)) := by
    rw [List.getElem?_map, hy, ← ek]
    rfl
  have il : i < t.place.toList.length := by
    have z1 : i < M.length := (List.getElem?_eq_some_iff.mp hy).1
    have z2 := R.tab.sz
    rw [List.length_map] at z2
    rw [Array.length_toList]
    omega
  have hj := List.getElem?_eq_getElem il
  obtain ⟨c, hc, e⟩ := R.tab.before n2 hi hj
  exact ⟨c, Nat.zero_le _, hc, by rw [hj, e]⟩
theorem mix_stay {h h' : Heap} {k : List Key} {b : Addr} (x : MixT P w h k b) (kp : ∀ c o, h.get? c = some o → h'.get? c = some o) : MixT P w h' k b := by
  obtain ⟨o, its, n, ho, r⟩ := x
  exact ⟨o, its, n, kp b o ho, r⟩
/-- such a tuple is not the set -/
theorem mix_other {h h' : Heap} {k : List Key} {b : Addr} {o : Obj} (x : MixT P w h k b) (ho : h.get? a = some o) (hd : o.data = .set es ep t) (sb : Heap.SameBut a h h') : MixT P w h' k b := by
  obtain ⟨o2, its, n, ho2, hc, hd2, r⟩ := x
  have ne : b ≠ a := fun z => by
    rw [z, ho] at ho2
    rw [← Option.some.inj ho2, hd] at hd2
    exact nomatch hd2
  exact ⟨o2, its, n, (sb.2 b ne).trans ho2, hc, hd2, r⟩
theorem order_mix (M : List (Value × α)) (es : Array (Int × Value)) (order : Array Nat) (hr : es.toList = M.map fun x => (mixH P w (g x.2), x.1)) (hp : order.toList.Perm (List.range M.length)) :
    ∃ M2, (order.filterMap (es[·]?)).toList = (M2.map fun x => (mixH P w (g x.2), x.1)) ∧ List.Perm M2 M ∧ (M2.map fun x => mixH P w (g x.2)) = order.toList.map fun i => (es.map (·.1)).getD i 0 := by
  have z : es.size = M.length := by rw [← Array.length_toList, hr, List.length_map]
  have ent : ∀ i (x : Value × α), M[i]? = some x → es[i]? = some (mixH P w (g x.2), x.1) := fun i x h => by
    rw [← Array.getElem?_toList, hr, List.getElem?_map, h]
    rfl
  have key : ∀ l : List Nat, (∀ i ∈ l, i < M.length) → (l.filterMap (fun i => es[i]?)) = ((l.filterMap fun i => M[i]?).map fun x => (mixH P w (g x.2), x.1)) ∧
      ((l.filterMap fun i => M[i]?).map fun x => mixH P w (g x.2)) = l.map fun i => (es.map (·.1)).getD i 0 := fun l => by
    induction l with
    | nil => exact fun _ => ⟨rfl, rfl⟩
    | cons i l ih =>
      intro hl
      obtain ⟨x, hx⟩ : ∃ x, M[i]? = some x := ⟨_, List.getElem?_eq_getElem (hl i (.head _))⟩
      obtain ⟨e1, e2⟩ := ih fun j hj => hl j (.tail _ hj)
      have e4 : (es.map (·.1)).getD i 0 = mixH P w (g x.2) := by
        have e5 : (es.map (·.1))[i]? = some (mixH P w (g x.2)) := by
          rw [Array.getElem?_map, ent i x hx]
          rfl
        simp [Array.getD_eq_getD_getElem?, e5]
      refine ⟨?_, ?_⟩
      · rw [List.filterMap_cons_some (ent i x hx), List.filterMap_cons_some hx, e1]
        rfl
      · rw [List.filterMap_cons_some hx, List.map_cons, List.map_cons, e2, e4]
  obtain ⟨e1, e2⟩ := key order.toList fun i hi => List.mem_range.mp (hp.mem_iff.mp hi)
  refine ⟨order.toList.filterMap fun i => M[i]?, by simpa using e1, ?_, e2⟩
  have all : ∀ n, n ≤ M.length → (List.range n).filterMap (fun i => M[i]?) = M.take n := fun n => by
    induction n with
    | zero => exact fun _ => rfl
    | succ n ih =>
      intro hn
      have hx := List.getElem?_eq_getElem (l := M) (i := n) hn
      rw [List.range_succ, List.filterMap_append, ih (Nat.le_of_lt hn), List.take_succ, hx, List.filterMap_cons_some hx]
      rfl
  have q := hp.filterMap fun i => M[i]?
  rw [all M.length (Nat.le_refl _), List.take_length] at q
  exact q
end
end Nine
set_option maxHeartbeats 4000000
/-! K9W4: sets of tuples of ints and texts: the table laid anew, adding. -/
namespace Nine
open PySem PySem.Spec PyProof.Rows L2
section
variable {P : Program} {w : World} {A : Around} {E : Value → Shared → Prop} {s : Shared} {α : Type} {g : α → List Key} {a : Addr} {M : List (Value × α)} {es : Array (Int × Value)} {ep : Nat} {t : SetTable}
theorem mix_relay {o : Obj} (ho : s.heap.get? a = some o) (hx : o.ExactSet) (hd : o.data = .set es ep t) (hr : es.toList = M.map fun x => (mixH P w (g x.2), x.1)) (hs : t.place.size = es.size) (dm : t.dummies = #[]) (fl : es.size ≤ t.mask)
    (nd : (M.map Prod.snd).Nodup) (tup : ∀ x ∈ M, ∃ b, x.1 = .ref b ∧ MixT P w s.heap (g x.2) b) (ld : w.params.followText "set-order" = true ∨ t.led = true) (few : M.length < 64) {wanted m : Nat}
    (hw : SetTable.sizeAbove wanted - 1 = m) (hm : MaskOk m) (hw2 : SetTable.sizeAbove wanted ≤ 128) (hn : M.length * 5 < m * 3) {Q : Unit → Shared → Prop}
    (hQ : ∀ h' M' es' ep' t', Heap.SameBut a s.heap h' → MixS P w g h' a M' es' ep' t' → M'.Perm M → Q () { s with heap := h' }) : wpAny (model P w) A (setRelay a wanted) Q E s := by
  have z : es.size = M.length := by rw [← Array.length_toList, hr, List.length_map]
  have ft : t.fits es.size = true := by
    unfold SetTable.fits SetTable.fill
    rw [dm, Bool.and_eq_true, beq_iff_eq, decide_eq_true_eq]
    exact ⟨hs, by show t.place.size + 0 ≤ t.mask; omega⟩
  obtain ⟨t2, order, e, hp, T, em, el, _, _⟩ := relaid_ok t (hs := es.map (·.1)) (wanted := wanted) hw hm (by rw [Array.size_map, z]; omega)
  rw [Array.size_map, z] at hp
  obtain ⟨M2, r1, r2, r3⟩ := order_mix M es order hr hp
  rw [← r3] at T
  have z2 : (order.filterMap (es[·]?)).size = es.size := by rw [← Array.length_toList, r1, List.length_map, r2.length_eq, z]
  rw [setRelay_eq]
  refine wpAny_bind (wpAny_setState_of ho hd ft ?_)
  dsimp only
  refine wp_if_neg (by rw [sizeLine_eq]; omega) ?_
  rw [e]
  dsimp only
  refine wpAny_bind (wp_if_neg (by rw [z2]; simp) (wpAny_pure ?_))
  dsimp only
  refine wpAny_storeSet_of ho hd ?_ (by rw [z2, z, sizeLine_eq]; omega)
  have sb : Heap.SameBut a s.heap (s.heap.update a (Obj.putSet (order.filterMap (es[·]?)) t2)) := Heap.SameBut.update ..
  refine hQ _ M2 _ (ep + 1) t2 sb ⟨⟨_, store_at ho hd, ⟨hx.1, hx.2.1, hx.2.2⟩, rfl⟩, r1, T, (r2.map Prod.snd).nodup_iff.mpr nd, fun x hxm => ?_, by rw [el]; exact ld, ?_, by rw [r2.length_eq]; exact few⟩ r2
  · obtain ⟨b, eb, hb⟩ := tup x (r2.mem_iff.mp hxm)
    exact ⟨b, eb, mix_other hb ho hd sb⟩
  · rw [r2.length_eq, em]
    exact hn
theorem mix_put (gi : ∀ x y, g x = g y → x = y) (R : MixS P w g s.heap a M es ep t) {x : Addr} {k : α} (hx : MixT P w s.heap (g k) x) (hu : A.units < cLine) (few : M.length + 1 < 64) {Q : Bool → Shared → Prop}
    (hQ : ∀ b h' M' es' ep' t', Heap.SameBut a s.heap h' → MixS P w g h' a M' es' ep' t' → (k ∈ M.map Prod.snd → M' = M) → (k ∉ M.map Prod.snd → M'.Perm ((.ref x, k) :: M)) → Q b { s with heap := h' }) :
    wpAny (model P w) A (setAddHashed a (.ref x) (mixH P w (g k))) Q E s := by
  obtain ⟨o, ho, hex, hd⟩ := R.ob
  have z := R.size
  have room := R.room
  unfold setAddHashed
  refine wpAny_holding ?_
  rw [show (100000 : Nat) = 99999 + 1 from rfl, setAddHashedIn_succ]
  refine wpAny_bind (wpAny_setState_of ho hd R.fits ?_)
  dsimp only
  refine wp_if_neg (by simp [byScan, Value.scannable]) ?_
  refine wpAny_bind (mix_search_at gi R hx hu (fun hm => ?_) fun N hm n1 n2 => ?_)
  · dsimp only
    exact wpAny_pure (hQ false s.heap M es ep t (Heap.SameBut.refl a s.heap) R (fun _ => rfl) fun y => absurd hm y)
  · dsimp only
    refine wpAny_bind (wpAny_setState_of ho hd R.fits ?_)
    dsimp only
    obtain ⟨q1, q2, q3, q4, q5, q6, q7, q8, q9⟩ := R.tab.put n1 n2
    generalize hpt : t.put (way t.mask (mixH P w (g k)) N) = pt at q1 q3 q4 q5 q6 q7 q8 q9 ⊢
    obtain ⟨t1, p⟩ := pt
    dsimp only at q1 q3 q4 q5 q6 q7 q8 q9 ⊢
    subst q1
    rw [List.length_map] at q9
    generalize hpp : SetTable.below t.place (way t.mask (mixH P w (g k)) N) = p at q2 q3 ⊢
    have pm := L2.put_perm M p (Value.ref x, k)
    have rw1 : (SetTable.insertAt es p (mixH P w (g k), Value.ref x)).toList = (M.take p ++ (Value.ref x, k) :: M.drop p).map fun x => (mixH P w (g x.2), x.1) := by
      rw [SetTable.toList_insertAt, R.rows, List.map_append, List.map_cons, List.map_take, List.map_drop]
    have hs1 : (M.map fun x => mixH P w (g x.2)).take p ++ mixH P w (g k) :: (M.map fun x => mixH P w (g x.2)).drop p = (M.take p ++ (Value.ref x, k) :: M.drop p).map fun x => mixH P w (g x.2) := by
      rw [List.map_append, List.map_cons, List.map_take, List.map_drop]
    rw [hs1] at q3
    generalize M.take p ++ (Value.ref x, k) :: M.drop p = M1 at pm rw1 q3
    generalize SetTable.insertAt es p (mixH P w (g k), Value.ref x) = es1 at rw1 ⊢
    have l1 : M1.length = M.length + 1 := pm.length_eq
    have z1 : es1.size = M.length + 1 := by rw [← Array.length_toList, rw1, List.length_map, l1]
    have nd1 : (M1.map Prod.snd).Nodup := (pm.map Prod.snd).nodup_iff.mpr (List.nodup_cons.mpr ⟨hm, R.nd⟩)
    have tail : ∀ t2 : SetTable, t2.mask = t.mask → t2.led = t.led → t2.fill = M.length + 1 → TabOk t2 (M1.map fun x => mixH P w (g x.2)) →
        wpAny (model P w) A (storeSet a es1 t2 >>= fun _ => if (!false && t2.tooFull) = true then (setRelay a (SetTable.grown (es.size + 1)) >>= fun _ => pure true) else pure true) Q E s := fun t2 m2 ld2 f2 T2 => by
      refine wpAny_bind (wpAny_storeSet_of ho hd ?_ (by rw [z1, sizeLine_eq]; omega))
      have sb : Heap.SameBut a s.heap (s.heap.update a (Obj.putSet es1 t2)) := Heap.SameBut.update ..
      have o1 := store_at (es' := es1) (t' := t2) ho hd
      generalize s.heap.update a (Obj.putSet es1 t2) = h1 at sb o1 ⊢
      have tup1 : ∀ y ∈ M1, ∃ b, y.1 = .ref b ∧ MixT P w h1 (g y.2) b := fun y hy => by
        rcases List.mem_cons.mp (pm.mem_iff.mp hy) with e | hy
        · rw [e]
          exact ⟨x, rfl, mix_other hx ho hd sb⟩
        · obtain ⟨b, eb, hb⟩ := R.tup y hy
          exact ⟨b, eb, mix_other hb ho hd sb⟩
      have ld1 : w.params.followText "set-order" = true ∨ t2.led = true := by rw [ld2]; exact R.led
      by_cases tf : t2.tooFull = true
      · refine wp_if_pos (by simp [tf]) (wpAny_bind ?_)
        have full : (M.length + 1) * 5 ≥ t2.mask * 3 := by
          have y := tf
          unfold SetTable.tooFull at y
          rw [decide_eq_true_eq, f2] at y
          exact y
        have two : (t.mask = 7 ∧ M.length = 4) ∨ (t.mask = 31 ∧ M.length = 18) := by
          rw [m2] at full
          rcases R.tab.mok with e | e | e
          · exact .inl ⟨e, by omega⟩
          · exact .inr ⟨e, by omega⟩
          · omega
        rw [z]
        have z3 : t2.place.size = es1.size := by
          have y := T2.sz
          rw [List.length_map, l1] at y
          rw [y, z1]
        have go : ∀ m, SetTable.sizeAbove (SetTable.grown (M.length + 1)) - 1 = m → MaskOk m → SetTable.sizeAbove (SetTable.grown (M.length + 1)) ≤ 128 → (M.length + 1) * 5 < m * 3 →
            wpAny (model P w) A (setRelay a (SetTable.grown (M.length + 1))) (fun _ s' => wpAny (model P w) A (pure true) Q E s') E { s with heap := h1 } := fun m y1 y2 y3 y4 =>
          mix_relay (s := { s with heap := h1 }) (g := g) (M := M1) o1 ⟨hex.1, hex.2.1, hex.2.2⟩ rfl rw1 z3 T2.dm (by rw [z1, m2]; rcases two with ⟨e, e2⟩ | ⟨e, e2⟩ <;> omega) nd1 tup1 ld1 (by rw [l1]; exact few) y1 y2 y3 (by rw [l1]; exact y4)
            fun h2 M2 es2 ep2 t3 sb2 R2 pm2 => wpAny_pure (hQ true h2 M2 es2 ep2 t3 (sb.trans sb2) R2 (fun y => absurd y hm) fun _ => pm2.trans pm)
        rcases two with ⟨_, e2⟩ | ⟨_, e2⟩
        · exact go 31 (by rw [e2, size_20]) (.inr (.inl rfl)) (by rw [e2, size_20]; decide) (by omega)
        · exact go 127 (by rw [e2, size_76]) (.inr (.inr rfl)) (by rw [e2, size_76]; decide) (by omega)
      · refine wp_if_neg (by simp [tf]) (wpAny_pure (hQ true h1 M1 es1 (ep + 1) t2 sb ⟨⟨_, o1, ⟨hex.1, hex.2.1, hex.2.2⟩, rfl⟩, rw1, T2, nd1, tup1, ld1, ?_, by rw [l1]; exact few⟩ (fun y => absurd y hm) fun _ => pm))
        have y := tf
        unfold SetTable.tooFull at y
        rw [decide_eq_true_eq, f2] at y
        rw [l1]
        omega
    have both : ∀ c : Bool, wpAny (model P w) A (storeSet a es1 (if c = true then t1 else { t1 with plain := false }) >>= fun _ => if (!false && (if c = true then t1 else { t1 with plain := false }).tooFull) = true then (setRelay a (SetTable.grown (es.size + 1)) >>= fun _ => pure true) else pure true) Q E s := fun c => by
      cases c
      · exact tail _ q4 q5 q9 (by obtain ⟨c1, c2, c3, c4, c5, c6⟩ := q3; exact ⟨c1, c2, c3, c4, c5, c6⟩)
      · exact tail _ q4 q5 q9 q3
    by_cases pl : t1.plain = true
    · exact wp_if_pos pl (wpAny_bind (mix_hash hx fun c => both c))
    · exact wp_if_neg pl (wpAny_bind (wpAny_pure (both true)))
end
end Nine
set_option maxHeartbeats 4000000
/-! K9W5: set_of of the hazards. -/
namespace Nine
open PySem PySem.Spec PyProof.Rows L2
def gH (z : Hz) : List Key := [.inl (z.1 : Int), .inr z.2.1, .inl (z.2.2 : Int)]
theorem gH_inj (x y : Hz) (h : gH x = gH y) : x = y := by
  obtain ⟨a, b, c⟩ := x
  obtain ⟨a', b', c'⟩ := y
  simp only [gH, List.cons.injEq, Sum.inl.injEq, Sum.inr.injEq, Int.ofNat_inj, Int.natCast_inj, and_true] at h
  obtain ⟨h1, h2, h3⟩ := h
  subst h1
  subst h2
  subst h3
  rfl
section
variable {P : Program} {w : World} {α : Type} {g : α → List Key} {h : Heap} {a : Addr} {M : List (Value × α)} {es : Array (Int × Value)} {ep : Nat} {t : SetTable}
theorem mixs_size (R : MixS P w g h a M es ep t) : es.size = M.length := by
  rw [← Array.length_toList, R.rows, List.length_map]
theorem mixs_fits (R : MixS P w g h a M es ep t) : t.fits es.size = true := by
  have z1 := R.tab.sz
  rw [List.length_map] at z1
  have z2 := mixs_size R
  have z3 := R.room
  unfold SetTable.fits SetTable.fill
  rw [R.tab.dm, Bool.and_eq_true, beq_iff_eq, decide_eq_true_eq]
  exact ⟨z1.trans z2.symm, by show t.place.size + 0 ≤ t.mask; omega⟩
def hzMem (P : Program) (w : World) : Mem P w Hz where
  is := fun h k v => ∃ b, v = .ref b ∧ MixT P w h (gH k) b
  good := fun h a M => ∃ es ep t, MixS P w gH h a M es ep t
  stay := fun ⟨b, e, x⟩ kp => ⟨b, e, mix_stay x kp⟩
  svals := fun {h a M} ⟨es, ep, t, R⟩ => by
    obtain ⟨o, ho, hx, hd⟩ := R.ob
    refine ⟨es, ep, t, ⟨o, ho, hx.1, hd⟩, ?_, mixs_fits R, by rw [mixs_size R]; exact R.few, R.tab.ris, R.led⟩
    rw [R.rows, List.map_map]
    rfl
  keep := fun {h h' a M} ⟨es, ep, t, R⟩ k tup => by
    obtain ⟨o, ho, r⟩ := R.ob
    exact ⟨es, ep, t, ⟨⟨o, k o ho, r⟩, R.rows, R.tab, R.nd, tup, R.led, R.room, R.few⟩⟩
  new := fun {h a} ho => ⟨#[], 0, _, ⟨⟨_, ho, ⟨rfl, rfl, rfl⟩, rfl⟩, rfl, ⟨List.Pairwise.nil, rfl, rfl, .inl rfl, fun x hx => (by cases hx), fun i h j hi => (by simp at hi)⟩, List.nodup_nil, fun x hx => (by cases hx), by
    show _ ∨ (!w.params.followText "set-order") = true
    cases w.params.followText "set-order"
    · exact .inr rfl
    · exact .inl rfl, by show 0 * 5 < 7 * 3; decide, by show 0 < 64; decide⟩⟩
  put := fun {A E s a M v k Q} hu ⟨es, ep, t, R⟩ ⟨b, e, hx⟩ few hQ => by
    subst e
    unfold setAdd
    exact wpAny_holding (wpAny_bind (wpAny_pyHash_tuple hu hx (mix_put (s := { s with toks := s.toks + ((gH k).length + 1) }) gH_inj R hx hu few fun c h' M' es' ep' t' sb R' c1 c2 => hQ c h' M' _ (Nat.le_add_right _ _) sb ⟨es', ep', t', R'⟩ c1 c2)))
end
section
variable {X : Cx} {e : Expr} {ρ : List Sl} {pos p pos2 p2 : Pos}
theorem hz_in : Members X (hzMem X.prog X.w) hzT := fun pins σ H s I v x k r m => by
  obtain ⟨a, xs, rfl, hs, ha⟩ := Im.tup_eq (ts := [natT k.1, .str k.2.1, natT k.2.2]) (by simpa [hzT] using m)
  obtain ⟨its, rv, ht, hz⟩ := I.tuple hs
  cases r
  refine ⟨a, rfl, ?_⟩
  have e1 : xs = (gH k).map kV := by
    cases ha with
    | cons m1 ha => cases ha with
      | cons m2 ha => cases ha with
        | cons m3 ha =>
          cases ha
          rw [show _ = V.int (k.1 : Int) from m1.int_eq, m2.str_eq, show _ = V.int (k.2.2 : Int) from m3.int_eq]
          rfl
  rw [e1] at rv
  have it := items_are (P := X.prog) (w := X.w) rv
  obtain ⟨o, ho, hc, n, hd⟩ := id ht
  exact ⟨o, _, n, ho, hc, hd, it⟩
theorem y_ssetH {l : List Hz} (hc : X.calm = true) (hu : X.A.units + 64 < cLine) (few : l.length < 64) (h : PyS X e ρ (l.map hzT)) (hm : X.mg "sorted" = none) (hm2 : X.mg "set" = none) (hg : Gl X "sorted" := by rfl) (hg2 : Gl X "set" := by rfl)
    (he : starEach [e] X.env = (false, eval e X.env) :: starEach [] X.env := by rfl) (hpl : (backTo pos2 (starEach [] X.env)).any (·.1) = false := by rfl)
    (he2 : starEach [.Call (.Name "set" p2) [e] [] pos2] X.env = (false, eval (.Call (.Name "set" p2) [e] [] pos2) X.env) :: starEach [] X.env := by rfl) (hpl2 : (backTo pos (starEach [] X.env)).any (·.1) = false := by rfl) :
    PyL X (.Call (.Name "sorted" p) [.Call (.Name "set" p2) [e] [] pos2] [] pos) ρ ((ordU ltH l).map hzT) :=
  y_sset (hzMem X.prog X.w) hz_in lin_hz ltD_hz hc hu few (fun a b => by simp [hzT, natT, T.d, T.ds, W.alike, W.alikeAll]) (fun l => .tuples fun b => ⟨.int (b.1 : Int), [.str b.2.1, .int (b.2.2 : Int)], by simp [hzT, natT, T.d, T.ds]⟩) (fun a => by simp [hzT, natT, T.d, T.ds, PyData.depth, PyData.depthAll]) h hm hm2 hg hg2 he hpl he2 hpl2
end
section
variable {P : Program} {w : World} {K : PySem.W.Frag} {mg : Str → Option Value} {base : Heap}
theorem ok_set_h (E : E9 K mg) {k : Nat} : Ok9 P w base (k + 1) E.f_set_of r_set_h := ok9 sc_set_of fun cdv A outer s H Ex as r hr hl h => by
  obtain ⟨hs, few, rfl, rfl⟩ := h
  exact ru_ret (x := .t (.tup ((ordU ltH hs).map hzT))) (y_tupleL (PyN.arg (y_ssetH rfl hr.units few (yl 0) E.b_sorted E.b_set)) E.b_tuple) rfl
end
end Nine
set_option maxHeartbeats 4000000
/-! K9N: tuple * 0, tuple * 1. -/
namespace Nine
open PySem PySem.Spec PyProof.Rows L2
theorem tuple_mul1 (l : Addr) (items : Array Value) (n : Nat) (dd : Option Addr) (sl : Array (Option Value)) (u : Tok) :
    Meets (Builtin.«tuple.__mul__» ⟨[.ref l, .int 1 u], []⟩) (fun _ R s => s.heap.get? l = some { cls := .type "tuple", dict := dd, data := .seq items n, slots := sl } ∧ R (.ok (.ret (Value.ref l))) s) :=
  .of_wp fun prog w A R s h => by
    obtain ⟨hp, g, d, tk, os⟩ := s
    obtain ⟨hl, h⟩ := h
    have f1 := AutoSeq1.idx_int
    have c1 : (items.isEmpty || (1 : Int) == 1) = true := by simp
    wp_walk using wpAny_loadPart' hl
    repeat (first
      | (refine wpAny_ite_true (decide_eq_true c1) ?_; wp_walk using wpAny_loadPart' hl)
      | (refine wpAny_ite_false (by decide) ?_; wp_walk using wpAny_loadPart' hl))
    exact ⟨_, rfl, h⟩
theorem tuple_mul0 (l : Addr) (items : Array Value) (n : Nat) (dd : Option Addr) (sl : Array (Option Value)) (u : Tok) (hi : items.isEmpty = false) :
    Meets (Builtin.«tuple.__mul__» ⟨[.ref l, .int 0 u], []⟩) (fun _ R s => s.heap.get? l = some { cls := .type "tuple", dict := dd, data := .seq items n, slots := sl } ∧
      R (.ok (.ret (Value.ref s.heap.objs.size))) { s with heap := s.heap.push { cls := Value.type "tuple", data := Data.seq #[] }, toks := s.toks }) :=
  .of_wp fun prog w A R s h => by
    obtain ⟨hp, g, d, tk, os⟩ := s
    obtain ⟨hl, h⟩ := h
    have f1 := AutoSeq1.idx_int
    have c1 : (items.isEmpty || (0 : Int) == 1) = false := by rw [hi]; decide
    have c2 : (decide ((0 : Int) ≤ 0) || items.isEmpty) = true := by simp
    wp_walk using wpAny_loadPart' hl
    repeat (first
      | (refine wpAny_ite_false (decide_eq_false (by rw [c1]; exact Bool.false_ne_true)) ?_; wp_walk using wpAny_loadPart' hl)
      | (refine wpAny_ite_true (decide_eq_true c2) ?_; wp_walk using wpAny_loadPart' hl)
      | (refine wpAny_ite_false (by decide) ?_; wp_walk using wpAny_loadPart' hl))
    exact ⟨_, rfl, h⟩
/-- a tuple that is not empty, once or not at all -/
def rRep01 (K : PySem.W.Frag) : R2 := fun x y H Q => ∃ l k xs, x = .ref l ∧ y = .int k ∧ SqT K H l xs ∧ xs ≠ [] ∧ (k = 1 → Q (.ref l) H) ∧ (k = 0 → ∀ p, H p = none → Q (.ref p) (upd H p (.tup []))) ∧ (k = 0 ∨ k = 1)
section
variable {X : Cx}
theorem op_rep01 : OpR X (binaryOp .Mult) (rRep01 X.K) := by
  intro pins s σ H x y v u Q I rx ry h
  obtain ⟨l, k, xs, rfl, rfl, hT, hne, q1, q0, hk⟩ := h
  cases rx
  obtain ⟨t, rfl⟩ := ry
  obtain ⟨its, r, ⟨⟨cls, dd, data, sl⟩, ho, hc, n, hd⟩, hs⟩ := I.tuple hT
  simp only at hc hd
  subst hc hd
  have hle : its.length = xs.length := r.length.symm
  have hn : its ≠ [] := fun e => hne (by
    rw [e] at hle
    exact List.eq_nil_of_length_eq_zero hle.symm)
  have hi : its.toArray.isEmpty = false := by
    cases its with
    | nil => exact absurd rfl hn
    | cons a b => rfl
  rcases hk with rfl | rfl
  · refine wpAny_binaryOp_repeat_ref (T := "tuple") (U := "int") (by decide) ⟨_, ho, rfl⟩ (fun s' => typeIs_int s' 0 t) noFill_tuple_mul F.fills_int_mul F.slot_int_rmul repeat_tuple F.slot_int_index.lookup
      (call_meets F.slot_int_rmul (typeIs_int s 0 t) F.entry_int_rmul (F.args_int_rmul_2 _ _) (int_rmul_tuple 0 t l its.toArray n dd sl)
        ⟨ho, rfl, ⟨_, ho, rfl⟩, call_meets F.slot_tuple_mul ⟨_, ho, rfl⟩ F.entry_tuple_mul (F.args_tuple_mul_2 _ _) (tuple_mul0 l its.toArray n dd sl t hi) ⟨ho, ?_⟩⟩)
    refine ⟨.ref s.heap.objs.size, _, I.laid (t' := s.toks) (o := .tup []) (fun b ob q => Heap.get?_push_of_some _ q) (Nat.le_refl _) ?_, rfl, q0 rfl _ (I.hok.fresh (Nat.le_refl _))⟩
    exact ⟨by rw [sizeLine_eq]; decide, [], .nil, IsTup.new _ _⟩
  · refine wpAny_binaryOp_repeat_ref (T := "tuple") (U := "int") (by decide) ⟨_, ho, rfl⟩ (fun s' => typeIs_int s' 1 t) noFill_tuple_mul F.fills_int_mul F.slot_int_rmul repeat_tuple F.slot_int_index.lookup
      (call_meets F.slot_int_rmul (typeIs_int s 1 t) F.entry_int_rmul (F.args_int_rmul_2 _ _) (int_rmul_tuple 1 t l its.toArray n dd sl)
        ⟨ho, rfl, ⟨_, ho, rfl⟩, call_meets F.slot_tuple_mul ⟨_, ho, rfl⟩ F.entry_tuple_mul (F.args_tuple_mul_2 _ _) (tuple_mul1 l its.toArray n dd sl t) ⟨ho, ?_⟩⟩)
    exact ⟨.ref l, H, I.kept (t' := s.toks) (fun b o e => e), rfl, q1 rfl⟩
end
end Nine
set_option maxHeartbeats 4000000
/-! K9Y: tupled, walked; attributes of a Watch. -/
namespace Nine
open PySem PySem.Spec PyProof.Rows L2
/-! ### tupled -/
mutual
def T.low : T → T
  | .tup ts => .tup (T.lows ts)
  | .tuf xs => .tup (xs.map T.str)
  | .lst ts => .tup (T.lows ts)
  | .non => .non
  | .bl b => .bl b
  | .int i => .int i
  | .str x => .str x
def T.lows : List T → List T
  | [] => []
  | t :: ts => t.low :: T.lows ts
end
theorem lows_map : ∀ ts : List T, T.lows ts = ts.map T.low
  | [] => by simp [T.lows]
  | t :: ts => by simp [T.lows, lows_map ts]
theorem low_strs (xs : List Str) : T.lows (xs.map T.str) = xs.map T.str := by
  rw [lows_map, List.map_map]
  exact List.map_congr_left fun x _ => by simp [T.low]
theorem low_nats (xs : List Nat) : T.lows (xs.map natT) = xs.map natT := by
  rw [lows_map, List.map_map]
  exact List.map_congr_left fun x _ => by simp [T.low, natT]
theorem low_mv (m : Mv) : m.t.low = m.t := by
  simp only [Mv.t, T.low, T.lows, low_strs]
theorem low_mvs (l : List Mv) : T.lows (l.map Mv.t) = l.map Mv.t := by
  rw [lows_map, List.map_map]
  exact List.map_congr_left fun m _ => low_mv m
theorem low_t (r : Rw) : r.t.low = r.t := by
  simp only [Rw.t, T.low, T.lows, low_strs, low_mvs, low_nats]
theorem low_tf (r : Rw) : r.tf.low = r.t := by
  simp only [Rw.tf, Rw.t, T.low, T.lows, low_strs, low_mvs, low_nats]
theorem depAll_le {n : Nat} : ∀ {ts : List T}, (∀ t ∈ ts, t.d.depth ≤ n) → PyData.depthAll (T.ds ts) ≤ n
  | [], _ => by simp [T.ds, PyData.depthAll]
  | t :: ts, h => by
    simp only [T.ds, PyData.depthAll]
    exact Nat.max_le.mpr ⟨h t List.mem_cons_self, depAll_le fun u hu => h u (List.mem_cons_of_mem _ hu)⟩
theorem dep_nats (xs : List Nat) : PyData.depthAll (T.ds (xs.map natT)) = 0 := Nat.le_zero.mp (depAll_le fun t ht => by
  obtain ⟨n, _, rfl⟩ := List.mem_map.mp ht
  simp [natT, T.d, PyData.depth])
theorem dep_mvs (l : List Mv) : PyData.depthAll (T.ds (l.map Mv.t)) ≤ 2 := depAll_le fun t ht => by
  obtain ⟨m, _, rfl⟩ := List.mem_map.mp ht
  simp only [Mv.t, T.d, T.ds, PyData.depth, PyData.depthAll, dep_strs]
  decide
theorem dep_pstrs : ∀ xs : List Str, PyData.depthAll (xs.map PyData.str) = 0
  | [] => rfl
  | x :: xs => by rw [List.map_cons]; simp only [PyData.depthAll, PyData.depth]; rw [dep_pstrs xs]; rfl
theorem dep_t (r : Rw) : r.t.d.depth ≤ 4 := by
  have := dep_mvs r.mv
  simp only [Rw.t, T.d, T.ds, PyData.depth, PyData.depthAll, dep_strs, dep_nats]
  omega
theorem dep_tf (r : Rw) : r.tf.d.depth ≤ 4 := by
  have := dep_mvs r.mv
  simp only [Rw.tf, T.d, T.ds, PyData.depth, PyData.depthAll, dep_strs, dep_nats, dep_pstrs]
  omega
section
variable {P : Program} {w : World} {K : PySem.W.Frag} {mg : Str → Option Value} {base : Heap}
def r_tupled (n : Nat) (as : List A4) (r : A4) : Prop := ∃ t : T, t.d.depth ≤ n ∧ as = [.t t] ∧ r = .t t.low
theorem tupled_step (E : E9 K mg) {k n : Nat} (G0 : ∀ m, n = m + 1 → Ok9 P w base k E.f_tupled (r_tupled m)) : Ok9 P w base (k + 1) E.f_tupled (r_tupled n) := ok9 sc_tupled fun cdv A outer s H Ex as r hr hl h => by
  obtain ⟨t, hd, rfl, rfl⟩ := h
  have flat : ∀ {u : T}, kitB (tyT u) "list" = some false → kitB (tyT u) "tuple" = some false → u.low = u → Ru (cxOf CX0 P w K mg base n_tupled "tupled" (defScope s_tupled) E.f_tupled.a cdv A outer s H Ex).nox (defBody s_tupled) (startR n_tupled [.t u]) { rt := fun a => a = .t u.low, nx := fun _ => A4.t u.low = .t .non } := fun {u} h1 h2 h3 => by
    rw [h3]
    exact ru_ret (x := .t u) (y_if (k := false) (t_val (Py.eq (y_isi2 (T1 := "list") (T2 := "tuple") (a := false) (b := false) (x := .t u) (yv 0) h1 h2 (by decide +kernel) (by decide +kernel) E.b_isinstance E.b_list E.b_tuple) rfl)) (fun z => nomatch z) fun _ => yv 0) rfl
  cases t with
  | non => exact flat (by show kitB "NoneType" "list" = _; decide +kernel) (by show kitB "NoneType" "tuple" = _; decide +kernel) (by simp [T.low])
  | bl b => exact flat (by show kitB "bool" "list" = _; decide +kernel) (by show kitB "bool" "tuple" = _; decide +kernel) (by simp [T.low])
  | int i => exact flat (by show kitB "int" "list" = _; decide +kernel) (by show kitB "int" "tuple" = _; decide +kernel) (by simp [T.low])
  | str x => exact flat (by show kitB "str" "list" = _; decide +kernel) (by show kitB "str" "tuple" = _; decide +kernel) (by simp [T.low])
  | tup ts =>
    obtain ⟨m, rfl⟩ : ∃ m, n = m + 1 := by
      cases n with
      | zero => simp [T.d, PyData.depth] at hd
      | succ m => exact ⟨m, rfl⟩
    have G := G0 m rfl
    have hdp : PyData.depthAll (T.ds ts) ≤ m := by simpa [T.d, PyData.depth] using hd
    refine ru_ret (x := .t (T.low (.tup ts))) (y_if (k := true) (t_val (Py.eq (y_isi2 (T1 := "list") (T2 := "tuple") (a := false) (b := true) (x := .t (.tup ts)) (yv 0) (by show kitB "tuple" "list" = _; decide +kernel) (by show kitB "tuple" "tuple" = _; decide +kernel) (by decide +kernel) (by decide +kernel) E.b_isinstance E.b_list E.b_tuple) rfl)) (fun _ => ?_) (fun z => nomatch z)) rfl
    have e : T.low (.tup ts) = .tup (ts.map T.low) := by simp [T.low, lows_map]
    rw [e]
    exact y_tupleL (PyN.arg (y_lm (own := [("part", 1)]) ts id T.low [1] rfl sc_tupled.nd (PiC.eq (i_tup (yv 0)).c (by rw [List.map_id])) (blkOk_by (N := n_tupled) (sc := defScope s_tupled) (by decide +kernel)) (by decide)
      fun t ht => ⟨_, fun s H C cl fp => ⟨g_name 1 sc_tupled.nd, y_callT (f := E.f_tupled) G hr (a1 (yv 1)) ⟨t, ds_depth hdp t ht, rfl, rfl⟩⟩⟩)) E.b_tuple
  | tuf xs =>
    obtain ⟨m, rfl⟩ : ∃ m, n = m + 1 := by
      cases n with
      | zero => simp [T.d, PyData.depth] at hd
      | succ m => exact ⟨m, rfl⟩
    have G := G0 m rfl
    refine ru_ret (x := .t (T.low (.tuf xs))) (y_if (k := true) (t_val (Py.eq (y_isi2 (T1 := "list") (T2 := "tuple") (a := false) (b := true) (x := .t (.tuf xs)) (yv 0) (by show kitB "tuple" "list" = _; decide +kernel) (by show kitB "tuple" "tuple" = _; decide +kernel) (by decide +kernel) (by decide +kernel) E.b_isinstance E.b_list E.b_tuple) rfl)) (fun _ => ?_) (fun z => nomatch z)) rfl
    have e : T.low (.tuf xs) = .tup (xs.map T.str) := by simp [T.low]
    rw [e]
    exact y_tupleL (PyN.arg (y_lm (own := [("part", 1)]) xs T.str T.str [1] rfl sc_tupled.nd (i_tup (Py.low (yv 0))).c (blkOk_by (N := n_tupled) (sc := defScope s_tupled) (by decide +kernel)) (by decide)
      fun x hx => ⟨_, fun s H C cl fp => ⟨g_name 1 sc_tupled.nd, Py.eq (y_callT (f := E.f_tupled) G hr (a1 (yv 1)) ⟨.str x, by simp [T.d, PyData.depth], rfl, rfl⟩) (by simp [T.low])⟩⟩)) E.b_tuple
  | lst ts =>
    obtain ⟨m, rfl⟩ : ∃ m, n = m + 1 := by
      cases n with
      | zero => simp [T.d, PyData.depth] at hd
      | succ m => exact ⟨m, rfl⟩
    have G := G0 m rfl
    have hdp : PyData.depthAll (T.ds ts) ≤ m := by simpa [T.d, PyData.depth] using hd
    refine ru_ret (x := .t (T.low (.lst ts))) (y_if (k := true) (t_val (Py.eq (y_isi2 (T1 := "list") (T2 := "tuple") (a := true) (b := false) (x := .t (.lst ts)) (yv 0) (by show kitB "list" "list" = _; decide +kernel) (by show kitB "list" "tuple" = _; decide +kernel) (by decide +kernel) (by decide +kernel) E.b_isinstance E.b_list E.b_tuple) rfl)) (fun _ => ?_) (fun z => nomatch z)) rfl
    have e : T.low (.lst ts) = .tup (ts.map T.low) := by simp [T.low, lows_map]
    rw [e]
    exact y_tupleL (PyN.arg (y_lm (own := [("part", 1)]) ts id T.low [1] rfl sc_tupled.nd (PiC.eq (i_lst (yv 0).ls) (by rw [List.map_id])) (blkOk_by (N := n_tupled) (sc := defScope s_tupled) (by decide +kernel)) (by decide)
      fun t ht => ⟨_, fun s H C cl fp => ⟨g_name 1 sc_tupled.nd, y_callT (f := E.f_tupled) G hr (a1 (yv 1)) ⟨t, ds_depth hdp t ht, rfl, rfl⟩⟩⟩)) E.b_tuple
theorem ok_tupled (E : E9 K mg) : ∀ n, Ok9 P w base (n + 1) E.f_tupled (r_tupled n)
  | 0 => tupled_step E fun m h => nomatch h
  | n + 1 => tupled_step E fun m h => by
    have : n = m := by omega
    subst this
    exact ok_tupled E n
end

/-! ### an attribute as a target -/
def gFld (K : PySem.W.Frag) (ta : TE) (f : Str) : TG := fun v σ H Q => ta σ H fun x H1 => ∃ a C dx fs, x = .ref a ∧ H1 a = some (.ins C dx fs) ∧ Cls K C ∧ NoAttr K C f ∧ fs.length < 1000 ∧ Q σ (upd H1 a (.ins C dx (putF f v fs)))
theorem pg_fld {X : Cx} {o : Expr} {f : Str} {pos : Pos} {ta : TE} (ho : PE X o ta) : PG X (.Attribute o f pos) (gFld X.K ta f) := by
  refine ⟨fun pins s σ H v u Q I r h => ?_⟩
  rw [assign_Attribute]
  refine wpAny_bind (wpAny_holding (thn (ho.run pins s σ H _ I h) fun ov s1 ⟨x, H1, I1, rx, a, C, dx, fs, ex, ea, c, n, l, q⟩ => ?_))
  subst ex
  obtain rfl : ov = Value.ref a := rx
  exact wpAny_bind (wpAny_standAt (wpAny_bind (wpAny_holding (setattr_ok I1 ea c n l r fun s3 I3 => wpAny_release ⟨σ, _, I3, q⟩))))

/-! ### the attributes of a Watch -/
theorem wn1 : ¬ (("own_row" : Str) = "own_told") := by decide +kernel
theorem wn2 : ¬ (("own_row" : Str) = "own_states") := by decide +kernel
theorem wn3 : ¬ (("own_told" : Str) = "own_states") := by decide +kernel
section
variable {vr vt v : V} {l m : Addr}
theorem wfs_row : (wfs vr vt l).lookup ("own_row" : Str) = some vr := by
  unfold wfs
  rw [List.lookup_cons, beq_self_eq_true]
theorem wfs_told : (wfs vr vt l).lookup ("own_told" : Str) = some vt := by
  unfold wfs
  rw [List.lookup_cons, beq_false_of_ne (Ne.symm wn1), List.lookup_cons, beq_self_eq_true]
theorem wfs_states : (wfs vr vt l).lookup ("own_states" : Str) = some (.ref l) := by
  unfold wfs
  rw [List.lookup_cons, beq_false_of_ne (Ne.symm wn2), List.lookup_cons, beq_false_of_ne (Ne.symm wn3), List.lookup_cons, beq_self_eq_true]
theorem wfs_no {x : Str} (h1 : ¬ x = "own_row") (h2 : ¬ x = "own_told") (h3 : ¬ x = "own_states") : (wfs vr vt l).lookup x = none := by
  unfold wfs
  rw [List.lookup_cons, beq_false_of_ne h1, List.lookup_cons, beq_false_of_ne h2, List.lookup_cons, beq_false_of_ne h3]
  rfl
theorem wfs_len : (wfs vr vt l).length < 1000 := by show 3 < 1000; decide
theorem wfs_made : putF "own_states" (.ref l) (putF "own_told" vt (putF "own_row" vr [])) = wfs vr vt l := by
  unfold wfs
  simp only [putF]
  rw [if_neg wn1]
  simp only [putF]
  rw [if_neg wn2, if_neg wn3]
theorem wfs_ptold : putF "own_told" v (wfs vr vt l) = wfs vr v l := by
  unfold wfs
  simp only [putF]
  rw [if_neg wn1, if_pos trivial]
theorem wfs_pstates : putF "own_states" (.ref m) (wfs vr vt l) = wfs vr vt m := by
  unfold wfs
  simp only [putF]
  rw [if_neg wn2, if_neg wn3, if_pos trivial]
end
structure WatAt (K : PySem.W.Frag) (C : Addr) (H : Hp) (p l : Addr) (r : T) (told sts : List T) : Prop where
  ex : ∃ dx vr vt xs, H p = some (.ins C dx (wfs vr vt l)) ∧ H l = some (.lst xs) ∧ Im K H vr r ∧ Im K H vt (.tup told) ∧ ImAll K H xs sts
section
variable {K : PySem.W.Frag} {C p l : Addr} {H H' : Hp} {r : T} {told sts : List T}
theorem WatAt.mono (h : WatAt K C H p l r told sts) (e : Same H H') : WatAt K C H' p l r told sts := by
  obtain ⟨dx, vr, vt, xs, a, b, c, d, f⟩ := h.ex
  exact ⟨dx, vr, vt, xs, e _ _ a, e _ _ b, c.mono e, d.mono e, f.mono e⟩
theorem WatAt.ne (h : WatAt K C H p l r told sts) : p ≠ l := by
  obtain ⟨dx, vr, vt, xs, a, b, _⟩ := h.ex
  intro e
  rw [e, b] at a
  cases a
theorem WatAt.tk (h : WatAt K C H p l r told sts) (k : TK K H H') (hp : H' p = H p) (hl : H' l = H l) : WatAt K C H' p l r told sts := by
  obtain ⟨dx, vr, vt, xs, a, b, c, d, f⟩ := h.ex
  exact ⟨dx, vr, vt, xs, hp.trans a, hl.trans b, c.tk k, d.tk k, f.tk k⟩
/-- what stays where only p and l change -/
theorem WatAt.keep (h : WatAt K C H p l r told sts) (k : ∀ x o, H x = some o → x ≠ p → x ≠ l → H' x = some o) : TK K H H' := by
  obtain ⟨dx, vr, vt, xs, a, b, _⟩ := h.ex
  refine ⟨fun q ys z => ?_, fun q o u z => k q _ z (fun e => ?_) fun e => ?_⟩
  · rcases z with (z | ⟨o, z⟩) | z
    · exact .inl (.inl (k q _ z (fun e => (by rw [e, a] at z; cases z)) fun e => (by rw [e, b] at z; cases z)))
    · exact .inl (.inr ⟨o, k q _ z (fun e => (by rw [e, a] at z; cases z)) fun e => (by rw [e, b] at z; cases z)⟩)
    · exact .inr z
  · rw [e, a] at z; cases z
  · rw [e, b] at z; cases z
end
end Nine
set_option maxHeartbeats 4000000
/-! K9Y2: the methods of a Watch, walked. -/
namespace Nine
open PySem PySem.Spec PyProof.Rows L2
/-- a method of the class at C -/
structure Me9 (K : PySem.W.Frag) (C : Addr) (m qn : Str) (st : Stmt) (ps : List Str) where
  a : Addr
  d : FuncData
  F : Fun K m qn st a d
  b : Binds K d ps []
  h : Meth K C m a
structure Wt (K : PySem.W.Frag) (mg : Str → Option Value) where
  C : Addr
  cl : Cls K C
  nr : NoAttr K C "own_row"
  nt : NoAttr K C "own_told"
  ns : NoAttr K C "own_states"
  mgW : mg "Watch" = some (.ref C)
  ia : Addr
  id : FuncData
  iF : Fun K "__init__" "Watch.__init__" s_w_init ia id
  ib : Binds K id ["self", "row"] []
  mkW : Mk K C ia
  deed : Me9 K C "deed" "Watch.deed" s_w_deed ["self", "word"]
  lose : Me9 K C "lose" "Watch.lose" s_w_lose ["self"]
  go : Me9 K C "go" "Watch.go" s_w_go ["self", "words"]
  twin : Me9 K C "twin" "Watch.twin" s_w_twin ["self"]
  endn : Me9 K C "end_now" "Watch.end_now" s_w_end_now ["self"]
  well : Me9 K C "is_well" "Watch.is_well" s_w_is_well ["self"]
theorem StR.nil {K : PySem.W.Frag} {C B H : Hp} (cb : Same C B) (bh : Same B H) : StR K C B [] H [] := ⟨cb, bh, rfl, fun i a h => by simp at h, fun i j a b _ h => by simp at h⟩
theorem StR.cons {K : PySem.W.Frag} {C B H : Hp} {σ : L2.St} {ρ : List Sl} {o : Option V} {a : Sl} (r : StR K C B σ H ρ) (ha : SlOk K C B H o a) (na : a.mine = false) : StR K C B (o :: σ) H (a :: ρ) := by
  refine ⟨r.cb, r.base, by rw [List.length_cons, List.length_cons, r.len], fun i b h => ?_, fun i j b c hij h1 h2 m1 m2 => ?_⟩
  · cases i with
    | zero =>
      obtain rfl : a = b := by simpa using h
      exact ha
    | succ i => exact r.slots i b (by simpa using h)
  · cases i with
    | zero =>
      obtain rfl : a = b := by simpa using h1
      rw [na] at m1; cases m1
    | succ i =>
      cases j with
      | zero =>
        obtain rfl : a = c := by simpa using h2
        rw [na] at m2; cases m2
      | succ j => exact r.apart i j b c (fun e => hij (by rw [e])) (by simpa using h1) (by simpa using h2) m1 m2
theorem StR.consV {K : PySem.W.Frag} {C B H : Hp} {σ : L2.St} {ρ : List Sl} {v : V} {t : T} (r : StR K C B σ H ρ) (im : Im K H v t) : StR K C B (some v :: σ) H (.val t :: ρ) := r.cons (a := .val t) ⟨v, rfl, im⟩ rfl
theorem StR.consR {K : PySem.W.Frag} {C B H : Hp} {σ : L2.St} {ρ : List Sl} {v : V} (r : StR K C B σ H ρ) : StR K C B (some v :: σ) H (.raw v :: ρ) := r.cons (a := .raw v) rfl rfl
theorem WatAt.sl {K : PySem.W.Frag} {Cl p l : Addr} {C H : Hp} {r : T} {told sts : List T} (h : WatAt K Cl H p l r told sts) : SlOk K C H H (some (.ref p)) (.ob Cl r (.tup told) sts) := by
  obtain ⟨dx, vr, vt, xs, a, b, c, d, e⟩ := h.ex
  exact ⟨p, dx, vr, vt, l, xs, rfl, a, b, c, d, e⟩
section
variable {X : Cx} {ρ : List Sl} {x : Str} {px ap pos : Pos} {r : T} {told sts : List T} {k : Nat}
theorem ob_at {K : PySem.W.Frag} {Cl : Addr} {C B H : Hp} {σ : L2.St} {i : Nat} (r' : StR K C B σ H ρ) (h : ρ[i]? = some (.ob Cl r (.tup told) sts)) : ∃ p l, σ[i]? = some (some (.ref p)) ∧ WatAt K Cl H p l r told sts := by
  obtain ⟨p, dx, vr, vt, l, xs, a, b, c, d, e, f⟩ := r'.slots i _ h
  exact ⟨p, l, join_some a, ⟨dx, vr, vt, xs, r'.base _ _ b, r'.base _ _ c, d, e, f⟩⟩
variable (W : Wt X.K X.mg)
theorem y_orow (i : Nat) (h : ρ[i]? = some (.ob W.C r (.tup told) sts) := by rfl) (hN : X.N[i]? = some x := by rfl) (hv : Vis X.env.scope x := by first | exact Or.inl rfl | exact Or.inr (Or.inl rfl) | exact Or.inr (Or.inr rfl)) (hd : (x == ("__debug__" : Str)) = false := by decide)
    (hcd : (x == ("__classdict__" : Str)) = false := by decide) (hb : attributeBase (.Name x px) "own_row" X.env (eval (.Name x px) X.env) = eval (.Name x px) X.env := by rfl) : Py X (.Attribute (.Name x px) "own_row" ap) ρ r :=
  PyG.of (pe_fld (pe_var hN hv hd hcd) hb) fun σ H C B st => by
    obtain ⟨p, l, e, wa⟩ := ob_at st h
    obtain ⟨dx, vr, vt, xs, a, b, c, d, f⟩ := wa.ex
    exact ⟨.ref p, e, p, W.C, dx, _, vr, rfl, a, W.cl, W.nr, wfs_row, Same.refl H, c⟩
theorem y_otold (i : Nat) (h : ρ[i]? = some (.ob W.C r (.tup told) sts) := by rfl) (hN : X.N[i]? = some x := by rfl) (hv : Vis X.env.scope x := by first | exact Or.inl rfl | exact Or.inr (Or.inl rfl) | exact Or.inr (Or.inr rfl)) (hd : (x == ("__debug__" : Str)) = false := by decide)
    (hcd : (x == ("__classdict__" : Str)) = false := by decide) (hb : attributeBase (.Name x px) "own_told" X.env (eval (.Name x px) X.env) = eval (.Name x px) X.env := by rfl) : Py X (.Attribute (.Name x px) "own_told" ap) ρ (.tup told) :=
  PyG.of (pe_fld (pe_var hN hv hd hcd) hb) fun σ H C B st => by
    obtain ⟨p, l, e, wa⟩ := ob_at st h
    obtain ⟨dx, vr, vt, xs, a, b, c, d, f⟩ := wa.ex
    exact ⟨.ref p, e, p, W.C, dx, _, vt, rfl, a, W.cl, W.nt, wfs_told, Same.refl H, d⟩
theorem y_osts (i : Nat) (h : ρ[i]? = some (.ob W.C r (.tup told) sts) := by rfl) (hN : X.N[i]? = some x := by rfl) (hv : Vis X.env.scope x := by first | exact Or.inl rfl | exact Or.inr (Or.inl rfl) | exact Or.inr (Or.inr rfl)) (hd : (x == ("__debug__" : Str)) = false := by decide)
    (hcd : (x == ("__classdict__" : Str)) = false := by decide) (hb : attributeBase (.Name x px) "own_states" X.env (eval (.Name x px) X.env) = eval (.Name x px) X.env := by rfl) : PyS X (.Attribute (.Name x px) "own_states" ap) ρ sts :=
  PyG.of (pe_fld (pe_var hN hv hd hcd) hb) fun σ H C B st => by
    obtain ⟨p, l, e, wa⟩ := ob_at st h
    obtain ⟨dx, vr, vt, xs, a, b, c, d, f⟩ := wa.ex
    exact ⟨.ref p, e, p, W.C, dx, _, .ref l, rfl, a, W.cl, W.ns, wfs_states, Same.refl H, l, xs, rfl, SqL.of b, f⟩
end
/-! ### promises -/
def spInit (K : PySem.W.Frag) (C : Addr) : L2.Sp := fun vs H Q _ => ∃ (p dx : Addr) (v : V) (t : T) (rw : Rw), vs = [.ref p, v] ∧ rw.Ok ∧ t.low = rw.t ∧ t.d.depth ≤ 5 ∧ H p = some (.ins C dx []) ∧ Im K H v t ∧
  ∀ (l : Addr) (H' : Hp), H l = none → (∀ x o, H x = some o → x ≠ p → H' x = some o) → WatAt K C H' p l rw.t [] [stT rw 0 oldT []] → Q .non H'
def spDeed (K : PySem.W.Frag) (C : Addr) : L2.Sp := fun vs H Q _ => ∃ (p l : Addr) (v : V) (rw : Rw) (b : Bool) (sp : Nat) (h : Ct) (pl : List Nat) (told sts : List T), vs = [.ref p, v] ∧ rw.Ok ∧ sp < rw.mv.length ∧ pl.length ≤ 20 ∧ told.length ≤ 100 ∧ sts.length ≤ 100 ∧
  atI sts (-1) = some (stT rw sp h pl) ∧ WatAt K C H p l rw.t told sts ∧ Im K H v (.str (wd b)) ∧
  ∀ H' : Hp, (∀ x o, H x = some o → x ≠ p → x ≠ l → H' x = some o) → WatAt K C H' p l rw.t (told ++ [.str (wd b)]) (sts ++ [wordT rw b sp h pl]) → Q .non H'
def spLose (K : PySem.W.Frag) (C : Addr) : L2.Sp := fun vs H Q _ => ∃ (p l : Addr) (rw : Rw) (sp : Nat) (h : Ct) (pl : List Nat) (told sts : List T), vs = [.ref p] ∧ rw.Ok ∧ sp < rw.mv.length ∧ pl.length ≤ 20 ∧ told.length ≤ 100 ∧ sts.length ≤ 100 ∧
  atI sts (-1) = some (stT rw sp h pl) ∧ WatAt K C H p l rw.t told sts ∧
  ∀ H' : Hp, (∀ x o, H x = some o → x ≠ p → x ≠ l → H' x = some o) → WatAt K C H' p l rw.t (told ++ [.str "lose"]) (sts ++ [wordT rw false sp h pl]) → Q .non H'
def spTwin (K : PySem.W.Frag) (C : Addr) : L2.Sp := fun vs H Q _ => ∃ (p l : Addr) (rw : Rw) (told sts : List T), vs = [.ref p] ∧ rw.Ok ∧ WatAt K C H p l rw.t told sts ∧
  ∀ (q m : Addr) (H' : Hp), H q = none → H m = none → Same H H' → WatAt K C H' q m rw.t told sts → Q (.ref q) H'
def stsGo (rw : Rw) (k : Nat) : List T := (List.range (k + 1)).map fun j => stT rw j (runR rw 0 j oldT) []
def spGo (K : PySem.W.Frag) (C : Addr) : L2.Sp := fun vs H Q _ => ∃ (p l : Addr) (v : V) (rw : Rw) (k : Nat), vs = [.ref p, v] ∧ rw.Ok ∧ k ≤ rw.mv.length ∧ WatAt K C H p l rw.t [] [stT rw 0 oldT []] ∧ Im K H v (.tup (List.replicate k (.str "do"))) ∧
  ∀ (m : Addr) (H' : Hp), H m = none → (∀ x o, H x = some o → x ≠ p → H' x = some o) → WatAt K C H' p m rw.t (List.replicate k (.str "do")) (stsGo rw k) → Q .non H'
/-- reading methods -/
def spRead (K : PySem.W.Frag) (C : Addr) (R : Rw → Nat → Ct → T → Prop) : L2.Sp := fun vs H Q _ => ∃ (p l : Addr) (rw : Rw) (sp : Nat) (h : Ct) (pl : List Nat) (told sts : List T) (t : T), vs = [.ref p] ∧ rw.Ok ∧ atI sts (-1) = some (stT rw sp h pl) ∧ WatAt K C H p l rw.t told sts ∧ R rw sp h t ∧
  ∀ v H', Same H H' → Im K H' v t → Q v H'
def rEndN (rw : Rw) (sp : Nat) (h : Ct) (t : T) : Prop := t = .tup (rw.want.map (runR rw sp rw.mv.length h))
def rWell (rw : Rw) (sp : Nat) (h : Ct) (t : T) : Prop := Gd 42 (.tup (rw.want.map (runR rw sp rw.mv.length h))) ∧ t = .bl (PyData.eqv (T.tup (rw.want.map (runR rw sp rw.mv.length h))).d (T.tup (endL rw none)).d)
section
variable {P : Program} {w : World} {K : PySem.W.Frag} {mg : Str → Option Value} {base : Heap}
abbrev OkM {C : Addr} {m qn : Str} {st : Stmt} {ps : List Str} (P : Program) (w : World) (mg : Str → Option Value) (base : Heap) (k : Nat) (f : Me9 K C m qn st ps) (sp : L2.Sp) : Prop := FnOk P w K mg base CX0 k f.a f.d ps sp
theorem ok_w_init (E : E9 K mg) (W : Wt K mg) {k : Nat} (G1 : Ok9 P w base k E.f_tupled (r_tupled 5)) (G2 : Ok9 P w base k E.f_first_state r_first) : FnOk P w K mg base CX0 (k + 1) W.ia W.id ["self", "row"] (spInit K W.C) := by
  refine W.iF.ok sc_w_init (fun vs H Q E h => ?_) fun cdv A outer s H vs Q Ex hr h => ?_
  · obtain ⟨p, dx, v, t, rw, rfl, _⟩ := h
    rfl
  · obtain ⟨p, dx, v, t, rw, rfl, o, hlow, hdp, hp, im, q⟩ := h
    refine ⟨_, pss_cons (ps_fld (pv 0) pe_g rfl) (pss_one (ps_asg (pe_tup (pa_cons (pe_tup pa_nil) (pa_cons (pe_lst (pa_cons (pe_call G2 hr rfl E.f_first_state.g E.f_first_state.F.kp E.f_first_state.b .nil pass0 (pa_cons (pe_fld (pv 0) rfl) pa_nil)) pa_nil)) pa_nil))) (pg_tup (n := 2) rfl (pgs_cons (pg_fld (pv 0)) (pgs_cons (pg_fld (pv 0)) pgs_nil))))), ?_⟩
    have st0 : StR K H H (L2.start n_w_init [.ref p, v]) H [.raw (.ref p), .val t] := ((StR.nil (Same.refl H) (Same.refl H)).consV im).consR
    -- self.own_row = tupled(row)
    refine g_use (y_callT (t := t.low) (f := E.f_tupled) G1 hr (a1 (yv 1)) ⟨t, hdp, rfl, rfl⟩) st0 fun vr H1 s1 q1 => ?_
    have q1' : Im K H1 vr t.low := q1
    rw [hlow] at q1'
    have hp1 := s1 _ _ hp
    refine ⟨_, rfl, p, W.C, dx, [], rfl, hp1, W.cl, W.nr, (by show 0 < 1000; decide), ?_⟩
    -- self.own_told, self.own_states = (), [first_state(self.own_row)]
    refine ⟨by show 0 ≤ sizeLine; decide, fun a0 h0 => ?_⟩
    have n0 : p ≠ a0 := fun e => by rw [← e, upd_same] at h0; cases h0
    have hp3 : (L2.upd (L2.upd H1 p (.ins W.C dx (putF "own_row" vr []))) a0 (.tup [])) p = some (.ins W.C dx (putF "own_row" vr [])) := by rw [upd_ne n0, upd_same]
    have t2 : TK K H1 (L2.upd H1 p (.ins W.C dx (putF "own_row" vr []))) := tk_upd (fun xs z => by rw [hp1] at z; cases z) fun u xs z => by rw [hp1] at z; cases z
    have t3 := t2.trans (tk_same (same_new (o := .tup []) h0))
    have hz : SqT K (L2.upd (L2.upd H1 p (.ins W.C dx (putF "own_row" vr []))) a0 (.tup [])) a0 [] := SqT.of upd_same
    have f3 : ∀ x o, H x = some o → x ≠ p → (L2.upd (L2.upd H1 p (.ins W.C dx (putF "own_row" vr []))) a0 (.tup [])) x = some o := fun x o e ne => by
      have e1 : (L2.upd H1 p (.ins W.C dx (putF "own_row" vr []))) x = some o := by rw [upd_ne ne]; exact s1 _ _ e
      rw [upd_ne (ne_of_none e1 h0)]
      exact e1
    generalize L2.upd (L2.upd H1 p (.ins W.C dx (putF "own_row" vr []))) a0 (.tup []) = H3 at hp3 t3 hz f3 ⊢
    have hlk : (putF "own_row" vr []).lookup ("own_row" : Str) = some vr := by rw [lookup_putF, if_pos rfl]
    refine ⟨_, rfl, p, W.C, dx, _, vr, rfl, hp3, W.cl, W.nr, hlk, [.t rw.t], .t (stT rw 0 oldT []), rfl, ⟨q1'.tk t3, trivial⟩, ⟨rw, o, rfl, rfl⟩, fun y H4 s4 q4 => ?_⟩
    have q4' : Im K H4 y (stT rw 0 oldT []) := q4
    have t4 := t3.trans (tk_same s4)
    refine ⟨by show 1 ≤ sizeLine; decide, fun l hl => ⟨by show 2 ≤ sizeLine; decide, fun a6 h6 => ?_⟩⟩
    have hp4 := s4 _ _ hp3
    have npl : p ≠ l := ne_of_none hp4 hl
    have hp5 : (L2.upd H4 l (.lst [y])) p = some (.ins W.C dx (putF "own_row" vr [])) := by rw [upd_ne npl]; exact hp4
    have npa : p ≠ a6 := ne_of_none hp5 h6
    have hl5 : (L2.upd H4 l (.lst [y])) l = some (.lst [y]) := upd_same
    have nla : l ≠ a6 := ne_of_none hl5 h6
    have hp6 : (L2.upd (L2.upd H4 l (.lst [y])) a6 (.tup [.ref a0, .ref l])) p = some (.ins W.C dx (putF "own_row" vr [])) := by rw [upd_ne npa]; exact hp5
    have hl6 : (L2.upd (L2.upd H4 l (.lst [y])) a6 (.tup [.ref a0, .ref l])) l = some (.lst [y]) := by rw [upd_ne nla]; exact hl5
    have s46 : Same H4 (L2.upd (L2.upd H4 l (.lst [y])) a6 (.tup [.ref a0, .ref l])) := (same_new hl).trans (same_new h6)
    have hS6 : SqT K (L2.upd (L2.upd H4 l (.lst [y])) a6 (.tup [.ref a0, .ref l])) a6 [.ref a0, .ref l] := SqT.of upd_same
    generalize L2.upd (L2.upd H4 l (.lst [y])) a6 (.tup [.ref a0, .ref l]) = H6 at hp6 hl6 s46 hS6 ⊢
    have t6 := t4.trans (tk_same s46)
    refine ⟨a6, [.ref a0, .ref l], rfl, hS6, rfl, .ref a0, [.ref l], rfl, ⟨_, rfl, p, W.C, dx, _, rfl, hp6, W.cl, W.nt, (by show 1 < 1000; decide), .ref l, [], rfl, ⟨_, rfl, p, W.C, dx, _, rfl, upd_same, W.cl, W.ns, (by simp only [putF]; rw [if_neg wn1]; show 2 < 1000; decide), rfl, ?_⟩⟩⟩
    rw [wfs_made]
    have k1 : TK K H6 (L2.upd H6 p (.ins W.C dx (putF "own_told" (.ref a0) (putF "own_row" vr [])))) := tk_upd (fun xs z => by rw [hp6] at z; cases z) fun u xs z => by rw [hp6] at z; cases z
    have k2 := k1.trans (tk_upd (p := p) (o := .ins W.C dx (wfs vr (.ref a0) l)) (fun xs z => by rw [upd_same] at z; cases z) fun u xs z => by rw [upd_same] at z; cases z)
    have t8 := t6.trans k2
    have hlp : H l = none := by
      cases e : H l with
      | none => rfl
      | some o' => have := s4 _ _ (f3 l o' e (Ne.symm npl)); rw [hl] at this; cases this
    refine q l _ hlp (fun x o e ne => ?_) ⟨dx, vr, .ref a0, [y], upd_same, ?_, q1'.tk t8, ?_, .one (q4'.tk ((tk_same s46).trans k2))⟩
    · rw [upd_ne ne, upd_ne ne]
      exact s46 _ _ (s4 _ _ (f3 x o e ne))
    · rw [upd_ne (Ne.symm npl), upd_ne (Ne.symm npl)]
      exact hl6
    · exact .tup (k2.s _ _ (same_t s46 (same_t s4 hz))) .nil
theorem ok_w_deed (E : E9 K mg) (W : Wt K mg) {k : Nat} (G1 : Ok9 P w base k E.f_behind_word r_behind_word) : OkM P w mg base (k + 1) W.deed (spDeed K W.C) := by
  refine W.deed.F.ok sc_w_deed (fun vs H Q E h => ?_) fun cdv A outer s H vs Q Ex hr h => ?_
  · obtain ⟨p, l, v, rw, b, sp, h, pl, told, sts, rfl, _⟩ := h
    rfl
  · obtain ⟨p, l, v, rw, b, sp, h, pl, told, sts, rfl, o, hsp, hpl, ht, hs, hat, wa, im, q⟩ := h
    refine ⟨_, pss_cons (ps_expr (pe_bm PySem.F.plainAttrs_list PySem.F.slot_list_append PySem.F.type_list_append mt_append (pe_fld (pv 0) rfl) (pa_cons pe_g pa_nil)) rfl)
      (pss_one (ps_fld (pv 0) (pe_tup (StX.pa_star (pe_fld (pv 0) rfl) (pa_cons (pv 1) pa_nil) rfl)) rfl)), ?_⟩
    have st0 : StR K H H (L2.start n_w_deed [.ref p, v]) H [.ob W.C rw.t (.tup told) sts, .val (.str (wd b))] := ((StR.nil (Same.refl H) (Same.refl H)).consV im).cons wa.sl rfl
    have npl := wa.ne
    have wa0 := wa
    obtain ⟨dx, vr, vt, xs, ha, hb, hr', ht', hs'⟩ := wa.ex
    refine ⟨.ref p, rfl, p, W.C, dx, _, .ref l, rfl, ha, W.cl, W.ns, wfs_states, lst_ty hb, ?_⟩
    refine g_use (y_callT (t := wordT rw b sp h pl) (f := E.f_behind_word) G1 hr (a_cons (y_orow W 0) (a_cons (y_ixL (y_osts W 0) (y_neg y_int) hat) (a1 (yv 1)))) ⟨rw, b, sp, h, pl, o, hsp, hpl, rfl, rfl⟩) st0 fun y H1 s1 q1 => ?_
    have q1' : Im K H1 y (wordT rw b sp h pl) := q1
    have ha1 := s1 _ _ ha
    have hb1 := s1 _ _ hb
    refine ⟨l, xs, y, rfl, rfl, hb1, by rw [hs'.length, sizeLine_eq]; omega, ?_⟩
    have k1 : TK K H1 (L2.upd H1 l (.lst (xs ++ [y]))) := tk_upd (fun xs z => by rw [hb1] at z; cases z) fun u xs z => by rw [hb1] at z; cases z
    have ha2 : (L2.upd H1 l (.lst (xs ++ [y]))) p = some (.ins W.C dx (wfs vr vt l)) := by rw [upd_ne npl]; exact ha1
    have hb2 : (L2.upd H1 l (.lst (xs ++ [y]))) l = some (.lst (xs ++ [y])) := upd_same
    have f2 : ∀ x o, H x = some o → x ≠ p → x ≠ l → (L2.upd H1 l (.lst (xs ++ [y]))) x = some o := fun x o e _ ne => by rw [upd_ne ne]; exact s1 _ _ e
    generalize L2.upd H1 l (.lst (xs ++ [y])) = H2 at k1 ha2 hb2 f2 ⊢
    have k2 := (tk_same s1).trans k1
    obtain ⟨a, ts, rfl, hS, hm⟩ := (ht'.tk k2).tup_eq
    refine ⟨_, rfl, p, W.C, dx, _, .ref a, rfl, ha2, W.cl, W.nt, wfs_told, a, ts, rfl, .inl hS, ⟨v, rfl, ?_⟩⟩
    refine ⟨by rw [List.length_append, hm.length, List.length_singleton, sizeLine_eq]; omega, fun c hc => ⟨_, rfl, p, W.C, dx, wfs vr (.ref a) l, rfl, ?_, W.cl, W.nt, wfs_len, ?_⟩⟩
    · rw [upd_ne (ne_of_none ha2 hc)]; exact ha2
    · rw [wfs_ptold]
      have ha3 : (L2.upd H2 c (.tup (ts ++ [v]))) p = some (.ins W.C dx (wfs vr (.ref a) l)) := by rw [upd_ne (ne_of_none ha2 hc)]; exact ha2
      have s23 : Same H2 (L2.upd H2 c (.tup (ts ++ [v]))) := same_new hc
      have k3 : TK K H2 (L2.upd (L2.upd H2 c (.tup (ts ++ [v]))) p (.ins W.C dx (wfs vr (.ref c) l))) := (tk_same s23).trans (tk_upd (fun xs z => by rw [ha3] at z; cases z) fun u xs z => by rw [ha3] at z; cases z)
      have hc3 : SqT K (L2.upd (L2.upd H2 c (.tup (ts ++ [v]))) p (.ins W.C dx (wfs vr (.ref c) l))) c (ts ++ [v]) := SqT.of (by rw [upd_ne (fun e => by rw [e, ha2] at hc; cases hc), upd_same])
      refine q _ (fun x o e n1 n2 => ?_) ⟨dx, vr, .ref c, xs ++ [y], upd_same, ?_, hr'.tk (k2.trans k3), .tup hc3 ((hm.tk k3).append (.one (im.tk (k2.trans k3)))), (hs'.tk (k2.trans k3)).append (.one (q1'.tk (k1.trans k3)))⟩
      · rw [upd_ne n1]
        exact s23 _ _ (f2 x o e n1 n2)
      · rw [upd_ne (Ne.symm npl)]
        exact s23 _ _ hb2
theorem ok_w_lose (E : E9 K mg) (W : Wt K mg) {k : Nat} (G1 : OkM P w mg base k W.deed (spDeed K W.C)) : OkM P w mg base (k + 1) W.lose (spLose K W.C) := by
  refine W.lose.F.ok sc_w_lose (fun vs H Q E h => ?_) fun cdv A outer s H vs Q Ex hr h => ?_
  · obtain ⟨p, l, rw, sp, h, pl, told, sts, rfl, _⟩ := h
    rfl
  · obtain ⟨p, l, rw, sp, h, pl, told, sts, rfl, o, hsp, hpl, ht, hs, hat, wa, q⟩ := h
    refine ⟨_, pss_one (ps_expr (pe_meth (pv 0) W.cl W.deed.h G1 hr W.deed.b .nil pass0 (pa_cons pe_g pa_nil)) rfl), ?_⟩
    have st0 : StR K H H (L2.start n_w_lose [.ref p]) H [.ob W.C rw.t (.tup told) sts] := (StR.nil (Same.refl H) (Same.refl H)).cons wa.sl rfl
    obtain ⟨dx, vr, vt, xs, ha, hb, _⟩ := wa.ex
    refine ⟨.ref p, rfl, p, dx, _, rfl, ha, wfs_no (by decide +kernel) (by decide +kernel) (by decide +kernel), ?_⟩
    refine g_use (y_gs E.c_LOSE) st0 fun y H1 s1 q1 => ?_
    have q1' : Im K H1 y (.str "lose") := q1
    refine ⟨p, l, y, rw, false, sp, h, pl, told, sts, rfl, o, hsp, hpl, ht, hs, hat, wa.mono s1, q1', fun H' f w' => q H' (fun x o e n1 n2 => f x o (s1 _ _ e) n1 n2) w'⟩
theorem ok_w_twin (E : E9 K mg) (W : Wt K mg) {k : Nat} (G1 : FnOk P w K mg base CX0 k W.ia W.id ["self", "row"] (spInit K W.C)) : OkM P w mg base (k + 2) W.twin (spTwin K W.C) := by
  refine W.twin.F.ok sc_w_twin (fun vs H Q E h => ?_) fun cdv A outer s H vs Q Ex hr h => ?_
  · obtain ⟨p, l, rw, told, sts, rfl, _⟩ := h
    rfl
  · obtain ⟨p, l, rw, told, sts, rfl, o, wa, q⟩ := h
    refine ⟨_, pss_cons (ps_set (i := 1) sc_w_twin.nd rfl (Or.inl rfl) (pe_make W.mkW G1 hr rfl W.mgW W.ib .nil pass0 (pa_cons (pe_fld (pv 0) rfl) pa_nil)))
      (pss_cons (ps_asg (pe_tup (pa_cons pe_g (pa_cons pe_g pa_nil))) (pg_tup (n := 2) rfl (pgs_cons (pg_fld (pv 1)) (pgs_cons (pg_fld (pv 1)) pgs_nil)))) (pss_one (ps_ret (pv 1)))), ?_⟩
    have wa0 := wa
    obtain ⟨dx, vr, vt, xs, ha, hb, hr', ht', hs'⟩ := wa.ex
    refine ⟨.ref p, rfl, p, W.C, dx, _, vr, rfl, ha, W.cl, W.nr, wfs_row, fun x d nx nd nxd => ?_⟩
    have s0 : Same H (L2.upd (L2.upd H d (.own x)) x (.ins W.C d [])) := fun b o e => by
      rw [upd_ne (ne_of_none e nx), upd_ne (ne_of_none e nd)]
      exact e
    refine ⟨x, d, vr, rw.t, rw, rfl, o, low_t rw, Nat.le_trans (dep_t rw) (by decide), upd_same, hr'.mono s0, fun m H1 hm f wx => ⟨rfl, ?_⟩⟩
    have s1 : Same H H1 := fun b o e => f b o (s0 _ _ e) (ne_of_none e nx)
    have hm0 : H m = none := s0.free hm
    -- other.own_told, other.own_states = self.own_told, list(self.own_states)
    have st1 : StR K H1 H1 [some (.ref p), some (.ref x)] H1 [.ob W.C rw.t (.tup told) sts, .raw (.ref x)] := ((StR.nil (Same.refl H1) (Same.refl H1)).consR).cons (wa.mono s1).sl rfl
    refine g_use (y_otold W 0) st1 fun vt2 H2 s2 q2 => ?_
    refine g_use (y_listL (y_osts W 0) E.b_list) (st1.mono s2) fun vl H3 s3 q3 => ?_
    have q2' : Im K H2 vt2 (.tup told) := q2
    obtain ⟨l3, ys, rfl, n3, h3, m3⟩ := q3
    refine ⟨by show 2 ≤ sizeLine; decide, fun c hc => ?_⟩
    obtain ⟨dy, wr, wt, zs, ga, gb, gr, gt, gs⟩ := wx.ex
    have ga3 := s3 _ _ (s2 _ _ ga)
    have ga4 : (L2.upd H3 c (.tup [vt2, .ref l3])) x = some (.ins W.C dy (wfs wr wt m)) := by rw [upd_ne (ne_of_none ga3 hc)]; exact ga3
    have s4 : Same H3 (L2.upd H3 c (.tup [vt2, .ref l3])) := same_new hc
    have hS : SqT K (L2.upd H3 c (.tup [vt2, .ref l3])) c [vt2, .ref l3] := SqT.of upd_same
    generalize L2.upd H3 c (.tup [vt2, .ref l3]) = H4 at ga4 s4 hS ⊢
    refine ⟨c, [vt2, .ref l3], rfl, hS, rfl, vt2, [.ref l3], rfl, ⟨_, rfl, x, W.C, dy, _, rfl, ga4, W.cl, W.nt, wfs_len, .ref l3, [], rfl, ⟨_, rfl, x, W.C, dy, _, rfl, upd_same, W.cl, W.ns, by rw [wfs_ptold]; exact wfs_len, rfl, ⟨.ref x, rfl, ?_⟩⟩⟩⟩
    rw [wfs_ptold, wfs_pstates]
    have k5 : TK K H4 (L2.upd H4 x (.ins W.C dy (wfs wr vt2 m))) := tk_upd (fun xs z => by rw [ga4] at z; cases z) fun u xs z => by rw [ga4] at z; cases z
    have k6 := k5.trans (tk_upd (p := x) (o := .ins W.C dy (wfs wr vt2 l3)) (fun xs z => by rw [upd_same] at z; cases z) fun u xs z => by rw [upd_same] at z; cases z)
    have s14 := (s2.trans s3).trans s4
    have n3x : l3 ≠ x := fun e => by rw [e, ga3] at h3; cases h3
    refine q x l3 _ nx (s1.free (s2.free n3)) (fun b o e => ?_) ⟨dy, wr, vt2, ys, upd_same, ?_, gr.tk ((tk_same s14).trans k6), q2'.tk ((tk_same (s3.trans s4)).trans k6), m3.tk ((tk_same s4).trans k6)⟩
    · rw [upd_ne (ne_of_none e nx), upd_ne (ne_of_none e nx)]
      exact s14 _ _ (s1 _ _ e)
    · rw [upd_ne n3x, upd_ne n3x]
      exact s4 _ _ h3
theorem sts_snoc {rw : Rw} {k : Nat} (hk : k < rw.mv.length) : stsGo rw k ++ [wordT rw true k (runR rw 0 k oldT) []] = stsGo rw (k + 1) := by
  unfold stsGo
  rw [List.range_succ (n := k + 1), List.map_append]
  congr 1
  show [stT rw (k + 1) (stepF (mvAt rw k) (runR rw 0 k oldT)) []] = [stT rw (k + 1) (runR rw 0 (k + 1) oldT) []]
  rw [runR_range (hi := k + 1) (by omega), runR_range (hi := k) (by omega), Nat.sub_zero, Nat.sub_zero, List.range'_1_concat, List.foldl_append, Nat.zero_add]
  rfl
theorem sts_last {rw : Rw} {k : Nat} : atI (stsGo rw k) (-1) = some (stT rw k (runR rw 0 k oldT) []) := by
  unfold stsGo
  refine last_ix ?_
  rw [List.range_succ]
  simp
theorem ok_w_go (E : E9 K mg) (W : Wt K mg) {k : Nat} (G1 : OkM P w mg base k W.twin (spTwin K W.C)) (G2 : OkM P w mg base k W.deed (spDeed K W.C)) : OkM P w mg base (k + 1) W.go (spGo K W.C) := by
  refine W.go.F.ok sc_w_go (fun vs H Q E h => ?_) fun cdv A outer s H vs Q Ex hr h => ?_
  · obtain ⟨p, l, v, rw, k, rfl, _⟩ := h
    rfl
  · obtain ⟨p, l, v, rw, n, rfl, o, hn, wa, im, q⟩ := h
    refine ⟨_, pss_cons (ps_set (i := 2) sc_w_go.nd rfl (Or.inl rfl) (pe_meth0 (pv 0) W.cl W.twin.h G1 hr W.twin.b .nil pass0))
      (pss_cons (ps_for PassesOwn.never rfl (pi_tup (pv 1)) (pg_name (i := 3) sc_w_go.nd rfl (Or.inl rfl)) (pss_one (ps_expr (pe_meth (pv 2) W.cl W.deed.h G2 hr W.deed.b .nil pass0 (pa_cons (pv 3) pa_nil)) rfl)))
      (pss_one (ps_asg (pe_tup (pa_cons (pe_fld (pv 2) rfl) (pa_cons (pe_fld (pv 2) rfl) pa_nil))) (pg_tup (n := 2) rfl (pgs_cons (pg_fld (pv 0)) (pgs_cons (pg_fld (pv 0)) pgs_nil)))))), ?_⟩
    have lm := o.lm
    obtain ⟨dx, vr, vt, xs, ha, hb, _⟩ := wa.ex
    refine ⟨.ref p, rfl, p, dx, _, rfl, ha, wfs_no (by decide +kernel) (by decide +kernel) (by decide +kernel), ?_⟩
    refine ⟨p, l, rw, [], [stT rw 0 oldT []], rfl, o, wa, fun y m H1 ny nm s1 wy => ?_⟩
    obtain ⟨a, ts, rfl, hS, hm⟩ := im.tup_eq
    have hlen := hm.length
    rw [List.length_replicate] at hlen
    have hv : ∀ (i : Nat) (z : V), ts[i]? = some z → z = .str "do" := fun i z e => by
      obtain ⟨t, et, imz⟩ := hm.getv e
      rw [List.getElem?_replicate] at et
      split at et
      · cases et
        exact imz.str_eq
      · cases et
    -- for word in words: other.deed(word)
    refine ⟨_, rfl, a, rfl, ⟨ts, same_t s1 hS⟩, for_tup (K := K) (a := a) (xs := ts) (fun i σ H' => ∃ v3 : Option V, σ = [some (.ref p), some (.ref a), some (.ref y), v3] ∧ (∀ x o, H x = some o → H' x = some o) ∧ WatAt K W.C H' y m rw.t (List.replicate i (.str "do")) (stsGo rw i)) ⟨none, rfl, s1, by
        have e : stsGo rw 0 = [stT rw 0 oldT []] := by unfold stsGo runR; simp
        rw [e]
        exact wy⟩ (fun i σ H' _ ⟨_, _, e, _⟩ => same_t e hS) ?_ ?_⟩
    · rintro i z σ H' hi ⟨v3, rfl, s2, w2⟩
      have hz := hv i z hi
      subst hz
      have hin : i < n := by rw [← hlen]; exact (List.getElem?_eq_some_iff.mp hi).1
      obtain ⟨dy, wr, wt, zs, ga, _⟩ := w2.ex
      refine ⟨.ref y, rfl, y, dy, _, rfl, ga, wfs_no (by decide +kernel) (by decide +kernel) (by decide +kernel), _, rfl, ?_⟩
      refine ⟨y, m, _, rw, true, i, runR rw 0 i oldT, [], _, _, rfl, o, by omega, by simp, by rw [List.length_replicate]; omega, by unfold stsGo; rw [List.length_map, List.length_range]; omega, sts_last, w2, .str "do", fun H3 f3 w3 => ?_⟩
      refine ⟨some (.str "do"), rfl, fun x o e => f3 x o (s2 x o e) (ne_of_none e ny) (ne_of_none e nm), ?_⟩
      rw [sts_snoc (by omega)] at w3
      rw [List.replicate_succ']
      exact w3
    · rintro σ H' ⟨v3, rfl, s2, w2⟩
      rw [hlen] at w2
      obtain ⟨dy, wr, wt, zs, ga, gb, gr, gt, gs⟩ := w2.ex
      have ha2 := s2 _ _ ha
      refine ⟨_, rfl, y, W.C, dy, _, wt, rfl, ga, W.cl, W.nt, wfs_told, _, rfl, y, W.C, dy, _, .ref m, rfl, ga, W.cl, W.ns, wfs_states, by show 2 ≤ sizeLine; decide, fun c hc => ?_⟩
      have ha3 : (L2.upd H' c (.tup [wt, .ref m])) p = some (.ins W.C dx (wfs vr vt l)) := by rw [upd_ne (ne_of_none ha2 hc)]; exact ha2
      have s3 : Same H' (L2.upd H' c (.tup [wt, .ref m])) := same_new hc
      have hS3 : SqT K (L2.upd H' c (.tup [wt, .ref m])) c [wt, .ref m] := SqT.of upd_same
      generalize L2.upd H' c (.tup [wt, .ref m]) = H3 at ha3 s3 hS3 ⊢
      refine ⟨c, [wt, .ref m], rfl, hS3, rfl, wt, [.ref m], rfl, ⟨_, rfl, p, W.C, dx, _, rfl, ha3, W.cl, W.nt, wfs_len, .ref m, [], rfl, ⟨_, rfl, p, W.C, dx, _, rfl, upd_same, W.cl, W.ns, by rw [wfs_ptold]; exact wfs_len, rfl, ?_⟩⟩⟩
      rw [wfs_ptold, wfs_pstates]
      have k5 : TK K H3 (L2.upd H3 p (.ins W.C dx (wfs vr wt l))) := tk_upd (fun xs z => by rw [ha3] at z; cases z) fun u xs z => by rw [ha3] at z; cases z
      have k6 := k5.trans (tk_upd (p := p) (o := .ins W.C dx (wfs vr wt m)) (fun xs z => by rw [upd_same] at z; cases z) fun u xs z => by rw [upd_same] at z; cases z)
      have gb3 := s3 _ _ gb
      have nmp : m ≠ p := fun e => by rw [e, ha3] at gb3; cases gb3
      have hvr : Im K H' vr rw.t := by
        obtain ⟨_, vr', _, _, ha', _, hr', _⟩ := wa.ex
        rw [ha] at ha'
        have e : vr = vr' := by
          have := HO.ins.inj (Option.some.inj ha')
          have e2 := congrArg (fun f => List.lookup ("own_row" : Str) f) this.2.2
          have e3 : some vr = some vr' := by
            rw [← wfs_row (vr := vr) (vt := vt) (l := l), e2]
            exact wfs_row
          exact Option.some.inj e3
        rw [e]
        exact hr'.mono s2
      refine q m _ nm (fun x o e ne => ?_) ⟨dx, vr, wt, zs, upd_same, ?_, hvr.tk ((tk_same s3).trans k6), gt.tk ((tk_same s3).trans k6), gs.tk ((tk_same s3).trans k6)⟩
      · rw [upd_ne ne, upd_ne ne]
        exact s3 _ _ (s2 _ _ e)
      · rw [upd_ne nmp, upd_ne nmp]
        exact gb3
/-- a def of one reading -/
theorem read_ok {X : Cx} {body : List Stmt} {σ : L2.St} {H : Hp} {ρ : List Sl} {Q : VK} {t : T} (b : Ru X body ρ { rt := fun a => a = .t t }) (st : StR X.K H H σ H ρ) (q : ∀ v H', Same H H' → Im X.K H' v t → Q v H') :
    ∃ tm, PSs X body tm ∧ tm { nx := fun _ H' => Q .non H', rt := Q } σ H := by
  refine ⟨_, pss_ru, ρ, H, H, _, b, st, fun σ' H' h => ?_, fun v H' h => ?_, fun σ' H' h => ?_⟩
  · obtain ⟨_, _, z⟩ := h; exact z.elim
  · rcases h with ⟨a, sm, n, e⟩ | ⟨t, σ, ρ, _, _, z⟩
    · subst e
      exact q v H' sm n
    · exact z.elim
  · obtain ⟨_, _, z⟩ := h; exact z.elim
theorem ok_w_end (E : E9 K mg) (W : Wt K mg) {k : Nat} (G1 : Ok9 P w base k E.f_end_from r_end_from) : OkM P w mg base (k + 1) W.endn (spRead K W.C rEndN) := by
  refine W.endn.F.ok sc_w_end_now (fun vs H Q E h => ?_) fun cdv A outer s H vs Q Ex hr h => ?_
  · obtain ⟨p, l, rw, sp, h, pl, told, sts, t, rfl, _⟩ := h
    rfl
  · obtain ⟨p, l, rw, sp, h, pl, told, sts, t, rfl, o, hat, wa, rfl, q⟩ := h
    exact read_ok (ru_ret (x := .t (.tup (rw.want.map (runR rw sp rw.mv.length h)))) (y_callT (f := E.f_end_from) G1 hr (a_cons (y_orow W 0) (a1 (y_ixL (y_osts W 0) (y_neg y_int) hat))) ⟨rw, sp, h, pl, o, rfl, rfl⟩) rfl) ((StR.nil (Same.refl H) (Same.refl H)).cons wa.sl rfl) q
section
variable {X : Cx} {ρ : List Sl} {x : Str} {px ap pos : Pos} {told sts : List T} {k : Nat} {m qn : Str} {sst : Stmt} {R : Rw → Nat → Ct → T → Prop}
/-- x.m(), a reading method of the Watch in slot i -/
theorem y_read (i : Nat) {C9 : Addr} {rw : Rw} {sp : Nat} {h : Ct} {pl : List Nat} {t : T} {pa : Sem Bool} (cl : Cls X.K C9) (M : Me9 X.K C9 m qn sst ["self"]) (G : OkM X.prog X.w X.mg X.base k M (spRead X.K C9 R)) (hr : Room k X.A) (o : rw.Ok) (hat : atI sts (-1) = some (stT rw sp h pl)) (hR : R rw sp h t)
    (hm : ¬ m = "own_row" ∧ ¬ m = "own_told" ∧ ¬ m = "own_states") (hρ : ρ[i]? = some (.ob C9 rw.t (.tup told) sts) := by rfl) (hN : X.N[i]? = some x := by rfl)
    (hv : Vis X.env.scope x := by first | exact Or.inl rfl | exact Or.inr (Or.inl rfl) | exact Or.inr (Or.inr rfl)) (hd : (x == ("__debug__" : Str)) = false := by decide) (hcd : (x == ("__classdict__" : Str)) = false := by decide)
    (ht : eval (.Call (.Attribute (.Name x px) m ap) [] [] pos) X.env = (do
      let ov ← eval (.Name x px) X.env
      standAt ap.atName
      let (f, first) ← holding [ov] (getMethod ov m pa)
      callWith pos f first (backTo pos (starEach [] X.env)) (backToKw pos (keywordEach [] X.env))) := by rfl) : Py X (.Call (.Attribute (.Name x px) m ap) [] [] pos) ρ t :=
  PyG.of (pe_meth0 (pl := pa) (pe_var hN hv hd hcd) cl M.h G hr M.b .nil pass0 ht) fun σ H C B st => by
    obtain ⟨p, l, e, wa⟩ := ob_at st hρ
    obtain ⟨dx, vr, vt, xs, a, _⟩ := wa.ex
    exact ⟨.ref p, e, p, dx, _, rfl, a, wfs_no hm.1 hm.2.1 hm.2.2, p, l, rw, sp, h, pl, told, sts, t, rfl, o, hat, wa, hR, fun v H' s q => ⟨s, q⟩⟩
end
theorem ok_w_well (E : E9 K mg) (W : Wt K mg) {k : Nat} (G1 : OkM P w mg base k W.endn (spRead K W.C rEndN)) (G2 : Ok9 P w base k E.f_end_terms r_end) : OkM P w mg base (k + 1) W.well (spRead K W.C rWell) := by
  refine W.well.F.ok sc_w_is_well (fun vs H Q E h => ?_) fun cdv A outer s H vs Q Ex hr h => ?_
  · obtain ⟨p, l, rw, sp, h, pl, told, sts, t, rfl, _⟩ := h
    rfl
  · obtain ⟨p, l, rw, sp, h, pl, told, sts, t, rfl, o, hat, wa, ⟨hg, rfl⟩, q⟩ := h
    refine read_ok (ru_ret (x := .t (.bl (PyData.eqv (T.tup (rw.want.map (runR rw sp rw.mv.length h))).d (T.tup (endL rw none)).d))) (y_eqD (x := .t (.tup (rw.want.map (runR rw sp rw.mv.length h)))) (y := .t (.tup (endL rw none))) hr.units (y_read 0 W.cl W.endn G1 hr o hat rfl (by decide +kernel)) (y_callT (f := E.f_end_terms) G2 hr (a1 (y_orow W 0)) ⟨rw, o, rfl, rfl⟩) (hg.sh (by omega)) ((endL_gd o).sh (by omega))) rfl) ((StR.nil (Same.refl H) (Same.refl H)).cons wa.sl rfl) q
end
end Nine
set_option maxHeartbeats 4000000
/-! K9Y3: the law's comparison of a ROW, walked. -/
namespace Nine
open PySem PySem.Spec PyProof.Rows L2
section
variable {X : Cx} {a b : Expr} {ρ : List Sl} {pos : Pos}
theorem rep_flat (x : V) : ∀ k : Nat, (List.replicate k [x]).flatten = List.replicate k x
  | 0 => rfl
  | k + 1 => by rw [List.replicate_succ, List.flatten_cons, rep_flat x k, List.replicate_succ]; rfl
theorem imAll_rep {K : PySem.W.Frag} {H : Hp} (x : Str) : ∀ k : Nat, ImAll K H (List.replicate k (V.str x)) (List.replicate k (T.str x))
  | 0 => .nil
  | k + 1 => .cons (.str x) (imAll_rep x k)
/-- (x,) * k -/
theorem y_rep {x : Str} {k : Nat} (ha : Py X a ρ (.tup [.str x])) (hb : Py X b ρ (natT k)) (hk : k ≤ 1000) : Py X (.BinOp a .Mult b pos) ρ (.tup (List.replicate k (.str x))) := by
  by_cases h2 : 2 ≤ k
  · refine y_op op_repT ha hb fun H u H1 v H2 s1 s2 q1 q2 => ?_
    obtain ⟨l, xs, rfl, hs, hm⟩ := Im.tup_eq q1
    have e : xs = [V.str x] := ImAll.strs (ns := [x]) hm
    subst e
    refine ⟨l, k, _, rfl, Im.int_eq q2, same_t s2 hs, by simp, by omega, by omega, by simp, fun p hp => ⟨(s1.trans s2).trans (same_new hp), .tup (SqT.of upd_same) ?_⟩⟩
    rw [Int.toNat_natCast, rep_flat]
    exact imAll_rep x k
  · refine y_op op_rep01 ha hb fun H u H1 v H2 s1 s2 q1 q2 => ?_
    obtain ⟨l, xs, rfl, hs, hm⟩ := Im.tup_eq q1
    have e : xs = [V.str x] := ImAll.strs (ns := [x]) hm
    subst e
    refine ⟨l, k, _, rfl, Im.int_eq q2, same_t s2 hs, by simp, fun h => ?_, fun h p hp => ?_, by omega⟩
    · obtain rfl : k = 1 := by omega
      exact ⟨s1.trans s2, .tup (same_t s2 hs) (hm.mono s2)⟩
    · obtain rfl : k = 0 := by omega
      exact ⟨(s1.trans s2).trans (same_new hp), .tup (SqT.of upd_same) .nil⟩
end
/-- a Watch made, led k moves on, then the loss -/
theorem ru_watch {X : Cx} {e e2 : Expr} {ρ : List Sl} {rest : List Stmt} {D : De} {pw pc p1 p2 p3 p' px px2 ap ap2 pc2 pc3 : Pos} (W : Wt X.K X.mg) (i : Nat) {x : Str} {rw : Rw} {t : T} {kk k : Nat} {pl pl2 : Sem Bool} (hN : X.N.Nodup) (o : rw.Ok) (hk : kk < rw.mv.length)
    (G1 : FnOk X.prog X.w X.K X.mg X.base CX0 k W.ia W.id ["self", "row"] (spInit X.K W.C)) (G2 : OkM X.prog X.w X.mg X.base k W.go (spGo X.K W.C)) (G3 : OkM X.prog X.w X.mg X.base k W.lose (spLose X.K W.C)) (hr : Room (k + 1) X.A)
    (he : Py X e ρ t) (hlow : t.low = rw.t) (hdp : t.d.depth ≤ 5) (hw : Py X e2 (ρ.set i .no) (.tup (List.replicate kk (.str "do"))))
    (q : Ru X rest (ρ.set i (.ob W.C rw.t (.tup (List.replicate kk (.str "do") ++ [.str "lose"])) (stsGo rw kk ++ [wordT rw false kk (runR rw 0 kk oldT) []]))) { D with nx := fun ρ' => D.nx (ρ'.map Sl.unrb), ct := fun ρ' => D.ct (ρ'.map Sl.unrb), ru := fun _ _ => False })
    (hi : i < ρ.length) (hX : X.N[i]? = some x := by rfl) (hx : X.env.scope.names.lookup x = some .local := by rfl)
    (hd : (x == ("__debug__" : Str)) = false := by decide) (hcd : (x == ("__classdict__" : Str)) = false := by decide) (hg : Gl X "Watch" := by rfl)
    (hs1 : swapsWith (.Call (.Name "Watch" pw) [e] [] pc) (some (.Name x p')) p1.line X.env = pure false := by rfl)
    (he1 : starEach [e] X.env = (false, eval e X.env) :: starEach [] X.env := by rfl) (he2 : starEach [e2] X.env = (false, eval e2 X.env) :: starEach [] X.env := by rfl)
    (ht2 : eval (.Call (.Attribute (.Name x px) "go" ap) [e2] [] pc2) X.env = (do
      let ov ← eval (.Name x px) X.env
      standAt ap.atName
      let (f, first) ← holding [ov] (getMethod ov "go" pl)
      callWith pc2 f first (backTo pc2 (starEach [e2] X.env)) (backToKw pc2 (keywordEach [] X.env))) := by rfl)
    (ht3 : eval (.Call (.Attribute (.Name x px2) "lose" ap2) [] [] pc3) X.env = (do
      let ov ← eval (.Name x px2) X.env
      standAt ap2.atName
      let (f, first) ← holding [ov] (getMethod ov "lose" pl2)
      callWith pc3 f first (backTo pc3 (starEach [] X.env)) (backToKw pc3 (keywordEach [] X.env))) := by rfl)
    (hs2 : swapsWith (.Call (.Attribute (.Name x px) "go" ap) [e2] [] pc2) none p2.line X.env = pure false := by rfl)
    (hs3 : swapsWith (.Call (.Attribute (.Name x px2) "lose" ap2) [] [] pc3) none p3.line X.env = pure false := by rfl) :
    Ru X (.Assign [.Name x p'] (.Call (.Name "Watch" pw) [e] [] pc) p1 :: .Expr (.Call (.Attribute (.Name x px) "go" ap) [e2] [] pc2) p2 :: .Expr (.Call (.Attribute (.Name x px2) "lose" ap2) [] [] pc3) p3 :: rest) ρ D := by
  have hv : Vis X.env.scope x := Or.inl hx
  have hr0 : Room k X.A := hr.mono (by omega)
  refine Ru.of (pss_cons (ps_set (i := i) hN hX (Or.inl hx) (pe_make W.mkW G1 hr hg W.mgW W.ib .nil pass0 (pa_cons pe_g pa_nil he1) (by decide) he1 rfl) hs1 (.inr hx))
    (pss_cons (ps_expr (pe_meth (pl := pl) (pe_var hX hv hd hcd) W.cl W.go.h G2 hr0 W.go.b .nil pass0 (pa_cons pe_g pa_nil he2) he2 rfl ht2) hs2)
    (pss_cons (ps_expr (pe_meth0 (pl := pl2) (pe_var hX hv hd hcd) W.cl W.lose.h G3 hr0 W.lose.b .nil pass0 ht3) hs3) pss_ru))) fun σ H C B st => ?_
  have lm := o.lm
  have hlen := st.len
  refine g_use he st fun v H1 s1 q1 => ?_
  have q1' : Im X.K H1 v t := q1
  intro y d ny nd nyd
  have s2 : Same H1 (L2.upd (L2.upd H1 d (.own y)) y (.ins W.C d [])) := fun b o e => by
    rw [upd_ne (ne_of_none e ny), upd_ne (ne_of_none e nd)]
    exact e
  refine ⟨y, d, v, t, rw, rfl, o, hlow, hdp, upd_same, q1'.mono s2, fun l H3 hl f3 w3 => ⟨rfl, ?_⟩⟩
  have s3 : Same H1 H3 := fun b o e => f3 b o (s2 _ _ e) (ne_of_none e ny)
  have nl : H1 l = none := s2.free hl
  -- go
  have g0 : (σ.set i (some (V.ref y)))[i]? = some (some (.ref y)) := List.getElem?_set_self (by omega)
  obtain ⟨dx, vr, vt, xs, ha, hb, _⟩ := w3.ex
  refine ⟨.ref y, g0, y, dx, _, rfl, ha, wfs_no (by decide +kernel) (by decide +kernel) (by decide +kernel), ?_⟩
  have st3 : StR X.K C B (σ.set i (some (.ref y))) H3 (ρ.set i .no) := (st.mono (s1.trans s3)).setv trivial rfl
  refine g_use hw st3 fun v4 H4 s4 q4 => ?_
  have q4' : Im X.K H4 v4 (.tup (List.replicate kk (.str "do"))) := q4
  refine ⟨y, l, v4, rw, kk, rfl, o, by omega, w3.mono s4, q4', fun m H5 nm f5 w5 => ?_⟩
  have s5 : Same H1 H5 := fun b o e => f5 b o (s4 _ _ (s3 _ _ e)) (ne_of_none e ny)
  have nm1 : H1 m = none := (s3.trans s4).free nm
  -- lose
  obtain ⟨dx5, vr5, vt5, xs5, ha5, hb5, _⟩ := w5.ex
  refine ⟨.ref y, g0, y, dx5, _, rfl, ha5, wfs_no (by decide +kernel) (by decide +kernel) (by decide +kernel), ?_⟩
  refine ⟨y, m, rw, kk, runR rw 0 kk oldT, [], _, _, rfl, o, hk, by simp, by rw [List.length_replicate]; omega, by unfold stsGo; rw [List.length_map, List.length_range]; omega, sts_last, w5, fun H6 f6 w6 => ?_⟩
  have s6 : Same H1 H6 := fun b o e => f6 b o (s5 _ _ e) (ne_of_none e ny) (ne_of_none e nm1)
  have st6 := st.mono (s1.trans s6)
  obtain ⟨dx6, vr6, vt6, xs6, ha6, hb6, hr6, ht6, hs6⟩ := w6.ex
  have noY : ¬ OwnAt σ ρ y := fun z => (st.own_none z).2.2.2 (s1.free ny)
  have noM : ¬ OwnAt σ ρ m := fun z => (st.own_none z).2.2.2 (s1.free nm1)
  have st7 : StR X.K C (calm σ ρ H6) (σ.set i (some (.ref y))) H6 (ρ.set i (.ob W.C rw.t (.tup (List.replicate kk (.str "do") ++ [.str "lose"])) (stsGo rw kk ++ [wordT rw false kk (runR rw 0 kk oldT) []]))) :=
    st6.calm.setv ⟨y, dx6, vr6, vt6, m, xs6, rfl, (calm_of noY).trans ha6, (calm_of noM).trans hb6, hr6, ht6, hs6⟩ rfl
  have cb : Same B (calm σ ρ H6) := st6.calm_b
  exact ⟨_, C, calm σ ρ H6, _, q, st7, fun σ' H' ⟨ρ', st', h⟩ => ⟨ρ'.map Sl.unrb, st'.down st.cb cb, h⟩, fun v H' h => en_down (C := C) (D := D) cb h, fun σ' H' ⟨ρ', st', h⟩ => ⟨ρ'.map Sl.unrb, st'.down st.cb cb, h⟩⟩
mutual
theorem pl_sm : ∀ t : T, t.pl = true → t.smT
  | .non, _ => by simp [T.smT]
  | .bl _, _ => by simp [T.smT]
  | .int _, _ => by simp [T.smT]
  | .str _, _ => by simp [T.smT]
  | .tup ts, h => by
    simp only [T.pl] at h
    simp only [T.smT]
    exact pls_sm ts h
  | .tuf _, h => by simp [T.pl] at h
  | .lst _, h => by simp [T.pl] at h
theorem pls_sm : ∀ ts : List T, T.pls ts = true → T.smTs ts
  | [], _ => by simp [T.smTs]
  | t :: ts, h => by
    simp only [T.pls, Bool.and_eq_true] at h
    simp only [T.smTs]
    exact ⟨pl_sm t h.1, pls_sm ts h.2⟩
end
theorem badF (r : Rw) : ∀ (l : List Nat) (b : List Nat), l.foldl (fun b k => if lostB r k then b ++ [k] else b) b = b ++ l.filter (lostB r)
  | [], b => by simp
  | k :: l, b => by
    rw [List.foldl_cons, badF r l, List.filter_cons]
    split <;> simp
section
variable {P : Program} {w : World} {K : PySem.W.Frag} {mg : Str → Option Value} {base : Heap}
def r_line_right (as : List A4) (r : A4) : Prop := ∃ rw : Rw, rw.Ok ∧ as = [.t rw.tf] ∧ r = .t (.bl true)
theorem ok_line_right (E : E9 K mg) (W : Wt K mg) {k : Nat} (G1 : FnOk P w K mg base CX0 k W.ia W.id ["self", "row"] (spInit K W.C)) (G2 : OkM P w mg base k W.go (spGo K W.C)) (G3 : OkM P w mg base k W.lose (spLose K W.C)) (G4 : OkM P w mg base k W.endn (spRead K W.C rEndN)) (G5 : OkM P w mg base k W.well (spRead K W.C rWell))
    (H1 : Ok9 P w base k E.f_l_end r_l_end) (H2 : Ok9 P w base k E.f_l_same (r_same 60)) (H3 : Ok9 P w base k E.f_end_of r_end_of) (H4 : Ok9 P w base k E.f_hazards r_hazards) (H5 : Ok9 P w base k E.f_keeps r_keeps) (H6 : Ok9 P w base k E.f_losses_against r_losses) (H7 : Ok9 P w base k E.f_l_hazards r_l_hazards) :
    Ok9 P w base (k + 2) E.f_l_line_right r_line_right := ok9 sc_l_line_right fun cdv A outer s H Ex as r hr1 hl h => by
  obtain ⟨rw, o, rfl, rfl⟩ := h
  have hr : Room k _ := hr1.mono (by omega)
  have lm := o.lm
  have arg : ∀ {X : Cx} {ρ : List Sl} {n : Nat} {es : List Expr} {kk : Nat} {pp : Pos}, Pa X es ρ [natT n] → Py X (.Tuple es kk pp) ρ (pT (some n)) := fun h => y_tup h
  -- line 0, k 1, has 2, sure 3, bad 4, plate 5, due 6
  refine ru_par 3 4 (u := .t (.tup (endL rw none))) (w := .s []) rfl sc_l_line_right.nd (by decide) (y_callT (f := E.f_l_end) H1 hr (a_cons (yv 0) (a1 (x := .t (pT none)) (y_tup b_nil))) ⟨rw, none, o, (fun _ z => nomatch z), rfl, rfl⟩) (y_lst b_nil) ?_
  refine ru_fold (List.range rw.mv.length) natT (fun b k => if lostB rw k then b ++ [k] else b) [] (fun b => [.val rw.tf, .no, .no, .val (.tup (endL rw none)), .own (b.map natT), .no, .no]) rfl rfl
    (i_rng (n := rw.mv.length) (Py.eq (y_len (y_fc 2 (yv 0)) E.b_len) (by rw [List.length_map]; rfl)) (by omega) E.b_range) (fun i n b hn hb => ⟨_, _, g_name 1 sc_l_line_right.nd, ?_⟩) (fun _ => rfl) ?_
  · have hnl : n < rw.mv.length := List.mem_range.mp (List.mem_of_getElem? hn)
    have hbl : b.length ≤ 5 := by
      rw [hb, badF, List.nil_append]
      have h1 := List.length_filter_le (lostB rw) ((List.range rw.mv.length).take i)
      rw [List.length_take, List.length_range] at h1
      omega
    have hp : ∀ k, some n = some k → k < rw.mv.length := fun k e => by cases e; exact hnl
    have gd := endL_gd o (p := some n)
    refine ru_watch _ 5 (t := rw.tf) (kk := n) sc_l_line_right.nd o hnl G1 G2 G3 (hr1.mono (by omega)) (yv 0) (low_tf rw) (Nat.le_trans (dep_tf rw) (by decide)) (y_rep (x := "do") (y_tup (b_cons y_str b_nil)) (yv 1) (by omega)) ?_ (by show 5 < 7; decide)
    refine ru_set 6 (y := .t (.tup (endL rw (some n)))) sc_l_line_right.nd (y_callT (f := E.f_l_end) H1 hr (a_cons (yv 0) (a1 (x := .t (pT (some n))) (arg (b_cons (yv 1) b_nil)))) ⟨rw, some n, o, hp, rfl, rfl⟩) ?_
    have hat : atI (stsGo rw n ++ [wordT rw false n (runR rw 0 n oldT) []]) (-1) = some (stT rw (markL rw n) (upC (runR rw 0 n oldT) (glAt rw n) (spoT 0)) [n]) := by
      have := last_ix (f := id) (l := stsGo rw n ++ [wordT rw false n (runR rw 0 n oldT) []]) (x := wordT rw false n (runR rw 0 n oldT) []) (by simp)
      rw [List.map_id] at this
      exact this
    have b1 : (lostB rw n) = !PyData.eqv (T.tup (endL rw (some n))).d (T.tup (endL rw none)).d := rfl
    refine ru_skip (Pt.eq (t_not (t_val (y_callT (t := .bl true) (f := E.f_l_same) H2 hr (a_cons (x := .s [.tup (endL rw (some n)), .tup (endL rw (some n)), .bl (PyData.eqv (T.tup (endL rw (some n))).d (T.tup (endL rw none)).d)]) (PyN.arg (y_lst (b_cons ?q1 (b_cons ?q2 (b_cons ?q3 b_nil))))) (a1 (x := .s [.tup (endL rw (some n)), .tup (endL rw (some n)), .bl (PyData.eqv (T.tup (endL rw (some n))).d (T.tup (endL rw none)).d)]) (PyN.arg (y_lst (b_cons (yv 6) (b_cons (yv 6) (b_cons ?q4 b_nil))))))) ⟨_, ?q5, ?q6, rfl, rfl⟩))) rfl) ?_
    case q1 => exact y_callT (f := E.f_end_of) H3 hr (a_cons (yv 0) (a1 (x := .t (pT (some n))) (arg (b_cons (yv 1) b_nil)))) ⟨rw, some n, o, hp, rfl, rfl⟩
    case q2 => exact y_read 5 W.cl W.endn G4 hr o hat rfl (by decide +kernel)
    case q3 => exact y_read 5 W.cl W.well G5 hr o hat ⟨gd, rfl⟩ (by decide +kernel)
    case q4 => exact y_eqD (x := .t (.tup (endL rw (some n)))) (y := .t (.tup (endL rw none))) hr.units (yv 6) (yv 3) (gd.sh (by omega)) ((endL_gd o).sh (by omega))
    case q5 =>
      simp only [A4.smA, T.smTs, and_true]
      exact ⟨pl_sm _ gd.pl, pl_sm _ gd.pl, by simp [T.smT]⟩
    case q6 =>
      have := gd.dp
      simp only [T.d, PyData.depth] at this
      simp only [A4.dt, T.ds, T.d, PyData.depth, PyData.depthAll]
      omega
    refine ru_if (k := lostB rw n) (t_neD (x := .t (.tup (endL rw (some n)))) (y := .t (.tup (endL rw none))) hr.units (yv 6) (yv 3) (gd.sh (by omega)) ((endL_gd o).sh (by omega))) (fun hk => ?_) fun hk => ?_
    · refine ru_append 4 (t := natT n) rfl (yv 1) (ru_end (ru_forget 1 (ru_forget 6 (ru_end ?_)))) (by rw [List.length_map]; omega)
      show _ = [_, _, _, _, Sl.own ((if lostB rw n = true then b ++ [n] else b).map natT), _, _]
      rw [if_pos hk, List.map_append]
      rfl
    · refine ru_end (ru_forget 1 (ru_forget 6 (ru_end ?_)))
      show _ = [_, _, _, _, Sl.own ((if lostB rw n = true then b ++ [n] else b).map natT), _, _]
      rw [if_neg (by rw [hk]; exact Bool.false_ne_true)]
      rfl
  · rw [badF, List.nil_append]
    have hz := haz_len o
    have hbl : ((List.range rw.mv.length).filter (lostB rw)).length ≤ 5 := by
      have h1 := List.length_filter_le (lostB rw) (List.range rw.mv.length)
      rw [List.length_range] at h1
      omega
    refine ru_set 2 (y := .s [.tup ((hazL rw).map hzT), .bl (decide ((hazL rw).length = 0)), .tup (((List.range rw.mv.length).filter (lostB rw)).map natT), .tup (endL rw none)]) sc_l_line_right.nd (y_lst (b_cons ?q1 (b_cons ?q2 (b_cons ?q3 (b_cons ?q4 b_nil))))) ?_
    case q1 => exact y_callT (f := E.f_hazards) H4 hr (a1 (Py.rt (yv 0))) ⟨rw, o, hz, rfl, rfl⟩
    case q2 => exact y_callT (f := E.f_keeps) H5 hr (a1 (Py.rt (yv 0))) ⟨rw, o, hz, rfl, rfl⟩
    case q3 => exact y_callT (f := E.f_losses_against) H6 hr (a1 (yv 0)) ⟨rw, o, rfl, rfl⟩
    case q4 => exact y_callT (f := E.f_end_of) H3 hr (a_cons (yv 0) (a1 (x := .t (pT none)) (y_tup b_nil))) ⟨rw, none, o, (fun _ z => nomatch z), rfl, rfl⟩
    refine ru_ret (x := .t (.bl true)) (y_callT (t := .bl true) (f := E.f_l_same) H2 hr (a_cons (yl 2) (a1 (PyN.arg (y_lst (b_cons ?z1 (b_cons ?z2 (b_cons ?z3 (b_cons (yv 3) b_nil)))))))) ⟨.s [.tup ((hazL rw).map hzT), .bl (decide ((hazL rw).length = 0)), .tup (((List.range rw.mv.length).filter (lostB rw)).map natT), .tup (endL rw none)], ?z4, ?z5, rfl, rfl⟩) rfl
    case z1 => exact y_callT (f := E.f_l_hazards) H7 hr (a1 (yv 0)) ⟨rw, o, lh_nodup o, rfl, by rw [haz_lh]⟩
    case z2 =>
      refine Py.eq (y_eqD (x := .s (((List.range rw.mv.length).filter (lostB rw)).map natT)) (y := .s []) hr.units (yl 4) (PyN.arg (y_lst b_nil)) ?_ (by show SeqAt.shaped _ = true; rfl)) ?_
      · exact nats_cmp _
      · rw [keeps_lost o]
        cases (List.range rw.mv.length).filter (lostB rw) <;> simp [A4.dt, T.ds, PyData.eqv, PyData.eqvAll]
    case z3 => exact y_tupleL (yl 4) E.b_tuple
    case z4 =>
      simp only [A4.smA, T.smTs, and_true]
      exact ⟨pl_sm _ (gd_hazs o).pl, by simp [T.smT], pl_sm _ (gd_tup (n := 0) fun t ht => by obtain ⟨m, _, rfl⟩ := List.mem_map.mp ht; exact gd_int 0 _).pl, pl_sm _ (endL_gd o).pl⟩
    case z5 =>
      have h1 := (endL_gd o (p := none)).dp
      have h2 := (gd_hazs o).dp
      simp only [T.d, PyData.depth] at h1 h2
      simp only [A4.dt, T.ds, T.d, PyData.depth, PyData.depthAll, dep_nats]
      omega
end
end Nine
set_option maxHeartbeats 4000000
/-! K9J: the urn: what changes it. -/
namespace Nine
open PySem PySem.Spec PyProof.Rows L2
abbrev Uv := Int × Int × Int
structure Urn (m : Nat) (u : Uv) : Prop where
  a : 0 ≤ u.1
  b0 : 0 ≤ u.2.1
  b1 : u.2.1 ≤ 2 ^ 62
  c0 : 0 ≤ u.2.2
  c1 : u.2.2 ≤ m
theorem Urn.mono {m n : Nat} {u : Uv} (h : Urn m u) (e : m ≤ n) : Urn n u := ⟨h.a, h.b0, h.b1, h.c0, by have := h.c1; omega⟩
open Classical in
/-- all but p -/
noncomputable def del (H : Hp) (p : Addr) : Hp := fun x => if x = p then none else H x
section
variable {K : PySem.W.Frag} {C B H H1 H2 H' : Hp} {σ : L2.St} {r ρ : List Sl} {p x : Addr} {u u' u2 : Uv}
theorem del_ne (h : x ≠ p) : del H p x = H x := by unfold del; rw [if_neg h]
theorem del_eq : del H p p = none := by unfold del; rw [if_pos rfl]
theorem del_same : Same (del H p) H := fun b o e => by
  by_cases h : b = p
  · rw [h, del_eq] at e; cases e
  · rw [del_ne h] at e; exact e
theorem del_mono (e : Same H H1) : Same (del H p) (del H1 p) := fun b o z => by
  by_cases h : b = p
  · rw [h, del_eq] at z; cases z
  · rw [del_ne h] at z
    rw [del_ne h]
    exact e _ _ z
theorem del_tk {xs : List V} (h : H p = some (.lst xs)) : TK K H (del H p) := ⟨fun a ys z => by
  rcases z with (z | ⟨o, z⟩) | z
  · have n : a ≠ p := fun e => by rw [e, h] at z; cases z
    exact .inl (.inl ((del_ne n).trans z))
  · have n : a ≠ p := fun e => by rw [e, h] at z; cases z
    exact .inl (.inr ⟨o, (del_ne n).trans z⟩)
  · exact .inr z, fun a o w z => by
  have n : a ≠ p := fun e => by rw [e, h] at z; cases z
  exact (del_ne n).trans z⟩
/-- behind an effect on the urn at p -/
structure UF (H : Hp) (p : Addr) (u : Uv) (H' : Hp) : Prop where
  off : Same (del H p) H'
  at_ : H' p = some (.lst (urnV u))
theorem UF.refl (h : H p = some (.lst (urnV u))) : UF H p u H := ⟨del_same, h⟩
theorem UF.same (e : Same H H1) (h : UF H1 p u H') : UF H p u H' := ⟨(del_mono e).trans h.off, h.at_⟩
theorem UF.post (h : UF H p u H1) (e : Same H1 H2) : UF H p u H2 := ⟨h.off.trans e, e _ _ h.at_⟩
theorem UF.ne (h : UF H p u H') {o : HO} (e : H x = some o) (n : x ≠ p) : H' x = some o := h.off _ _ ((del_ne n).trans e)
theorem UF.trans (h : UF H p u H1) (g : UF H1 p u' H2) : UF H p u' H2 := ⟨fun b o e => by
  by_cases hb : b = p
  · rw [hb, del_eq] at e; cases e
  · exact g.ne (h.off _ _ e) hb, g.at_⟩
theorem UF.tk {xs : List V} (h : H p = some (.lst xs)) (g : UF H p u H') : TK K H H' := (del_tk h).trans (tk_same g.off)
theorem UF.free (h : UF H p u H') (e : H' x = none) : H x = none := by
  have n : x ≠ p := fun z => by rw [z, h.at_] at e; cases e
  have z := h.off.free e
  rw [del_ne n] at z
  exact z
theorem st_urn (st : StR K C B σ H (.urn p u :: r)) : (σ[0]?).join = some (.ref p) ∧ B p = none ∧ H p = some (.lst (urnV u)) := st.slots 0 _ rfl
theorem UF.st (g : UF H p u' H') (st : StR K C B σ H (.urn p u :: r)) : StR K C B σ H' (.urn p u' :: r) := by
  obtain ⟨e0, hb, hp⟩ := st_urn st
  have := st.write (i := 0) (a := .urn p u) (b := .urn p u') (u := .lst (urnV u')) rfl rfl e0 fun tk => ⟨rfl, hb, upd_same⟩
  refine this.mono fun b o e => ?_
  by_cases h : b = p
  · subst h
    rw [upd_same] at e
    cases e
    exact g.at_
  · rw [upd_ne h] at e
    exact g.ne e h
theorem own_urn {q : Addr} : OwnAt σ (.urn p u :: r) q ↔ OwnAt σ (.urn p u' :: r) q := by
  constructor
  · rintro ⟨i, a, h1, h2, h3⟩
    cases i with
    | zero => exact ⟨0, _, rfl, rfl, h3⟩
    | succ i => exact ⟨i + 1, a, h1, h2, h3⟩
  · rintro ⟨i, a, h1, h2, h3⟩
    cases i with
    | zero => exact ⟨0, _, rfl, rfl, h3⟩
    | succ i => exact ⟨i + 1, a, h1, h2, h3⟩
theorem arg_del {v : V} {xs : List V} (hp : H p ≠ none) (hp1 : H1 p = some (.lst xs)) : ∀ {a : A4}, NewOk K H H1 v a → ArgOk K (del H1 p) v a
  | .t _, h => Im.tk (del_tk hp1) h
  | .s _, ⟨q, xs, e, n, b, c⟩ => ⟨q, xs, e, SqL.of ((del_ne fun z => hp (by rw [← z]; exact n)).trans b), c.tk (del_tk hp1)⟩
  | .d _, ⟨q, ks, e, n, b, c⟩ => ⟨q, ks, e, (del_ne fun z => hp (by rw [← z]; exact n)).trans b, c.tk (del_tk hp1)⟩
end

/-! ### expressions that change the urn -/
def PyE (X : Cx) (e : Expr) (p : Addr) (u : Uv) (r : List Sl) (R : Uv → Hp → V → Hp → Prop) : Prop :=
  ∀ (pins : List (Addr × Obj)) (s : Shared) (σ : L2.St) (H C B : Hp), Inv X pins σ H s → StR X.K C B σ H (.urn p u :: r) →
    wpAny (model X.prog X.w) X.A (eval e X.env) (EP X pins σ fun v H' => ∃ u', UF H p u' H' ∧ R u' H v H') X.xe s
abbrev PyEt (X : Cx) (e : Expr) (p : Addr) (u : Uv) (r : List Sl) (m : Nat) (G : T → Prop) : Prop := PyE X e p u r fun u' _ v H' => Urn m u' ∧ ∃ t, G t ∧ Im X.K H' v t
abbrev PyEl (X : Cx) (e : Expr) (p : Addr) (u : Uv) (r : List Sl) (m : Nat) (G : List T → Prop) : Prop := PyE X e p u r fun u' H v H' => Urn m u' ∧ ∃ ts, G ts ∧ NewOk X.K H H' v (.s ts)
def PtE (X : Cx) (e : Expr) (p : Addr) (u : Uv) (r : List Sl) (R : Uv → Bool → Prop) : Prop :=
  ∀ (pins : List (Addr × Obj)) (s : Shared) (σ : L2.St) (H C B : Hp), Inv X pins σ H s → StR X.K C B σ H (.urn p u :: r) →
    wpAny (model X.prog X.w) X.A (isTrue e X.env (eval e X.env)) (TP X pins σ fun k H' => ∃ u', UF H p u' H' ∧ R u' k) X.xe s
def PaE (X : Cx) (es : List Expr) (p : Addr) (u : Uv) (r : List Sl) (m : Nat) (G : List T → Prop) : Prop :=
  ∀ (pos : Pos) (pins : List (Addr × Obj)) (s : Shared) (σ : L2.St) (H C B : Hp), Inv X pins σ H s → StR X.K C B σ H (.urn p u :: r) →
    wpAny (model X.prog X.w) X.A (spliced (backTo pos (starEach es X.env))) (AP X pins σ fun vs H' => ∃ u', UF H p u' H' ∧ Urn m u' ∧ ∃ ts, G ts ∧ ImAll X.K H' vs ts) X.xe s
def tE (X : Cx) (e : Expr) : TE := fun σ H Q => ∃ p u r C B R, PyE X e p u r R ∧ StR X.K C B σ H (.urn p u :: r) ∧ ∀ v H' u', UF H p u' H' → R u' H v H' → Wf X H' → Q v H'
def tEA (X : Cx) (es : List Expr) : TA := fun σ H Q => ∃ p u r C B m G, PaE X es p u r m G ∧ StR X.K C B σ H (.urn p u :: r) ∧ ∀ vs H' u' ts, UF H p u' H' → Urn m u' → G ts → ImAll X.K H' vs ts → Q vs H'
def tET (X : Cx) (e : Expr) : TT := fun σ H Q => ∃ p u r C B R, PtE X e p u r R ∧ StR X.K C B σ H (.urn p u :: r) ∧ ∀ k H' u', UF H p u' H' → R u' k → Q k H'
section
variable {X : Cx} {e a b c : Expr} {es : List Expr} {r : List Sl} {pos : Pos} {p : Addr} {u : Uv} {m m' : Nat}
theorem pe_e : PE X e (tE X e) := ⟨fun pins s σ H Q I h => by
  obtain ⟨p, u, r, C, B, R, g, st, k⟩ := h
  refine thn (g pins s σ H C B I st) fun w s' ⟨v, H', I', rv, u', uf, q⟩ => ⟨v, H', I', rv, k v H' u' uf q ⟨_, _, _, I'⟩⟩⟩
theorem pa_e : PA X es (tEA X es) := ⟨fun pos pins s σ H Q I h => by
  obtain ⟨p, u, r, C, B, m, G, g, st, k⟩ := h
  refine thn (g pos pins s σ H C B I st) fun w s' ⟨v, H', I', rv, u', uf, hu, ts, q, im⟩ => ⟨v, H', I', rv, k v H' u' ts uf hu q im⟩⟩
theorem pt_e : PT X e (tET X e) := ⟨fun pins s σ H Q I h => by
  obtain ⟨p, u, r, C, B, R, g, st, k⟩ := h
  refine thn (g pins s σ H C B I st) fun w s' ⟨H', I', u', uf, q⟩ => ⟨H', I', k w H' u' uf q⟩⟩
theorem PyE.of {R : Uv → Hp → V → Hp → Prop} {t : TE} (h : PE X e t) (y : ∀ σ H C B, StR X.K C B σ H (.urn p u :: r) → t σ H fun v H' => ∃ u', UF H p u' H' ∧ R u' H v H') : PyE X e p u r R :=
  fun pins s σ H C B I st => h.run pins s σ H _ I (y σ H C B st)
theorem PaE.of {G : List T → Prop} {t : TA} (h : PA X es t) (y : ∀ σ H C B, StR X.K C B σ H (.urn p u :: r) → t σ H fun vs H' => ∃ u', UF H p u' H' ∧ Urn m u' ∧ ∃ ts, G ts ∧ ImAll X.K H' vs ts) : PaE X es p u r m G :=
  fun pos pins s σ H C B I st => h.run pos pins s σ H _ I (y σ H C B st)
theorem PtE.of {R : Uv → Bool → Prop} {t : TT} (h : PT X e t) (y : ∀ σ H C B, StR X.K C B σ H (.urn p u :: r) → t σ H fun k H' => ∃ u', UF H p u' H' ∧ R u' k) : PtE X e p u r R :=
  fun pins s σ H C B I st => h.run pins s σ H _ I (y σ H C B st)
theorem PyE.imp {R R' : Uv → Hp → V → Hp → Prop} (h : PyE X e p u r R) (k : ∀ u' H v H', R u' H v H' → R' u' H v H') : PyE X e p u r R' :=
  fun pins s σ H C B I st => thn (h pins s σ H C B I st) fun w s' ⟨v, H', I', rv, u', uf, q⟩ => ⟨v, H', I', rv, u', uf, k u' H v H' q⟩
theorem PyE.impT {G G' : T → Prop} (h : PyEt X e p u r m G) (k : ∀ t, G t → G' t) (hm : m ≤ m') : PyEt X e p u r m' G' := PyE.imp h fun u' H v H' ⟨hu, t, g, im⟩ => ⟨hu.mono hm, t, k t g, im⟩
theorem PyE.impL {G G' : List T → Prop} (h : PyEl X e p u r m G) (k : ∀ t, G t → G' t) (hm : m ≤ m') : PyEl X e p u r m' G' := PyE.imp h fun u' H v H' ⟨hu, t, g, im⟩ => ⟨hu.mono hm, t, k t g, im⟩
theorem Py.toE {t : T} (h : Py X e (.urn p u :: r) t) (hu : Urn m u) : PyEt X e p u r m fun t' => t' = t := PyE.of pe_g fun σ H C B st =>
  g_use h st fun v H1 s1 q1 => ⟨u, (UF.refl (st_urn st).2.2).post s1, hu, t, rfl, q1⟩
theorem e_use {σ : L2.St} {H C B : Hp} {R : Uv → Hp → V → Hp → Prop} {Q : VK} (g : PyE X e p u r R) (st : StR X.K C B σ H (.urn p u :: r)) (k : ∀ v H' u', UF H p u' H' → R u' H v H' → Wf X H' → Q v H') : tE X e σ H Q := ⟨p, u, r, C, B, R, g, st, k⟩
theorem ea_use {σ : L2.St} {H C B : Hp} {G : List T → Prop} {Q : List V → Hp → Prop} (g : PaE X es p u r m G) (st : StR X.K C B σ H (.urn p u :: r)) (k : ∀ vs H' u' ts, UF H p u' H' → Urn m u' → G ts → ImAll X.K H' vs ts → Q vs H') : tEA X es σ H Q := ⟨p, u, r, C, B, m, G, g, st, k⟩
theorem et_use {σ : L2.St} {H C B : Hp} {R : Uv → Bool → Prop} {Q : Bool → Hp → Prop} (g : PtE X e p u r R) (st : StR X.K C B σ H (.urn p u :: r)) (k : ∀ b H' u', UF H p u' H' → R u' b → Q b H') : tET X e σ H Q := ⟨p, u, r, C, B, R, g, st, k⟩

/-- the urn read -/
theorem y_urn {x : Str} (hN : X.N[0]? = some x := by rfl) (hv : Vis X.env.scope x := by first | exact Or.inl rfl | exact Or.inr (Or.inl rfl) | exact Or.inr (Or.inr rfl)) (hd : (x == ("__debug__" : Str)) = false := by decide)
    (hcd : (x == ("__classdict__" : Str)) = false := by decide) : PyS X (.Name x pos) (.urn p u :: r) [.int u.1, .int u.2.1, .int u.2.2] := PyG.of (pe_var hN hv hd hcd) fun σ H C B st => by
  obtain ⟨e0, hb, hp⟩ := st_urn st
  exact ⟨.ref p, join_some e0, Same.refl H, p, _, rfl, SqL.of hp, .cons (.int _) (.cons (.int _) (.cons (.int _) .nil))⟩

/-! ### calls -/
def spU (K : PySem.W.Frag) (n : Nat) (R : List A4 → Nat → (T → Prop) → Prop) : L2.Sp := fun vs H Q _ => ∃ (p : Addr) (us : List V) (u : Uv) (m need : Nat) (as : List A4) (G : T → Prop), vs = .ref p :: us ∧ as.length = n ∧ H p = some (.lst (urnV u)) ∧ Urn m u ∧ m + need ≤ 2 ^ 30 ∧
  ArgsOk K (del H p) us as ∧ R as need G ∧ ∀ v H' u' t, UF H p u' H' → Urn (m + need) u' → G t → Im K H' v t → Q v H'
abbrev OkU {K : PySem.W.Frag} {mg : Str → Option Value} {x nm q : Str} {st : Stmt} {ps : List Str} (P : Program) (w : World) (base : Heap) (k : Nat) (f : Fn9 K mg x nm st (q :: ps)) (R : List A4 → Nat → (T → Prop) → Prop) : Prop :=
  FnOk P w K mg base CX0 k f.a f.d (q :: ps) (spU K ps.length R)
variable {x y nm q q2 : Str} {sst : Stmt} {k need : Nat} {R : List A4 → Nat → (T → Prop) → Prop} {px py : Pos} {G : T → Prop}
/-- f(urn, e) -/
theorem e_call1 {f : Fn9 X.K X.mg x nm sst [q, q2]} {z : A4} (F : OkU X.prog X.w X.base k f R) (hr : Room k X.A) (he : PyN X e (.urn p u :: r) z) (hR : R [z] need G) (hu : Urn m u) (hm : m + need ≤ 2 ^ 30) (hN : X.N[0]? = some y := by rfl)
    (hv : Vis X.env.scope y := by first | exact Or.inl rfl | exact Or.inr (Or.inl rfl) | exact Or.inr (Or.inr rfl)) (hd : (y == ("__debug__" : Str)) = false := by decide) (hcd : (y == ("__classdict__" : Str)) = false := by decide) (hg : Gl X x := by rfl) (hdb : (x == ("__debug__" : Str)) = false := by decide)
    (h1 : starEach [.Name y py, e] X.env = (false, eval (.Name y py) X.env) :: starEach [e] X.env := by rfl) (h2 : starEach [e] X.env = (false, eval e X.env) :: starEach [] X.env := by rfl) (hpl : (backTo pos (starEach [e] X.env)).any (·.1) = false := by rfl) :
    PyEt X (.Call (.Name x px) [.Name y py, e] [] pos) p u r (m + need) G :=
  PyE.of (pe_call F hr hg f.g f.F.kp f.b .nil pass0 (pa_cons (pe_var hN hv hd hcd) (pa_cons pe_g pa_nil h2) h1) hdb h1 hpl) fun σ H C B st => by
    obtain ⟨e0, hb, hp⟩ := st_urn st
    refine ⟨.ref p, join_some e0, g_use he st fun v H1 s1 q1 => ?_⟩
    have hp1 := s1 _ _ hp
    exact ⟨p, [v], u, m, need, [z], G, rfl, rfl, hp1, hu, hm, ⟨arg_del (fun z => by rw [hp] at z; cases z) hp1 q1, trivial⟩, hR, fun v' H2 u' t uf hu' ht im => ⟨u', uf.same s1, hu', t, ht, im⟩⟩
/-- f(urn) -/
theorem e_call0 {f : Fn9 X.K X.mg x nm sst [q]} (F : OkU X.prog X.w X.base k f R) (hr : Room k X.A) (hR : R [] need G) (hu : Urn m u) (hm : m + need ≤ 2 ^ 30) (hN : X.N[0]? = some y := by rfl)
    (hv : Vis X.env.scope y := by first | exact Or.inl rfl | exact Or.inr (Or.inl rfl) | exact Or.inr (Or.inr rfl)) (hd : (y == ("__debug__" : Str)) = false := by decide) (hcd : (y == ("__classdict__" : Str)) = false := by decide) (hg : Gl X x := by rfl) (hdb : (x == ("__debug__" : Str)) = false := by decide)
    (h1 : starEach [.Name y py] X.env = (false, eval (.Name y py) X.env) :: starEach [] X.env := by rfl) :
    PyEt X (.Call (.Name x px) [.Name y py] [] pos) p u r (m + need) G :=
  PyE.of (pe_call F hr hg f.g f.F.kp f.b .nil pass0 (pa_cons (pe_var hN hv hd hcd) pa_nil h1) hdb h1 rfl) fun σ H C B st => by
    obtain ⟨e0, hb, hp⟩ := st_urn st
    exact ⟨.ref p, join_some e0, p, [], u, m, need, [], G, rfl, rfl, hp, hu, hm, trivial, hR, fun v' H2 u' t uf hu' ht im => ⟨u', uf, hu', t, ht, im⟩⟩
/-- f(a new urn) -/
theorem y_callF {f : Fn9 X.K X.mg x nm sst [q]} {ρ : List Sl} {t0 : T} (F : OkU X.prog X.w X.base k f R) (hr : Room k X.A) (he : PyL X e ρ [.int u.1, .int u.2.1, .int u.2.2]) (hR : R [] need fun t => t = t0) (hu : Urn m u) (hm : m + need ≤ 2 ^ 30) (hg : Gl X x := by rfl) (hdb : (x == ("__debug__" : Str)) = false := by decide)
    (h1 : starEach [e] X.env = (false, eval e X.env) :: starEach [] X.env := by rfl) :
    Py X (.Call (.Name x px) [e] [] pos) ρ t0 :=
  PyG.of (pe_call F hr hg f.g f.F.kp f.b .nil pass0 (pa_cons pe_g pa_nil h1) hdb h1 rfl) fun σ H C B st => g_use he st fun v H1 s1 q1 => by
    obtain ⟨l, xs, rfl, n, h, im⟩ := q1
    have e : xs = urnV u := ImAll.ints (ns := [u.1, u.2.1, u.2.2]) im
    subst e
    exact ⟨l, [], u, m, need, [], _, rfl, rfl, h, hu, hm, trivial, hR, fun v' H2 u' t uf hu' ht im => ⟨fun b o z => uf.ne (s1 _ _ z) (ne_of_none z n), by subst ht; exact im⟩⟩

/-! ### operators, displays, subscripts -/
theorem e_add {i : Nat} {P : Nat → Prop} (ha : Py X a (.urn p u :: r) (natT i)) (hb : PyEt X b p u r m fun t => ∃ n, P n ∧ t = natT n) : PyEt X (.BinOp a .Add b pos) p u r m fun t => ∃ n, P n ∧ t = natT (i + n) :=
  PyE.of (pe_op op_add pe_g pe_e) fun σ H C B st => g_use ha st fun v H1 s1 q1 => e_use hb (st.mono s1) fun w H2 u' uf ⟨hu, t, ⟨n, hn, et⟩, im⟩ _ => by
    subst et
    exact ⟨i, n, Im.int_eq q1, Im.int_eq im, u', uf.same s1, hu, _, ⟨n, hn, rfl⟩, .int _⟩
/-- x[e], x a tuple or a list handed in -/
theorem e_ixT {ts : List T} {P : Nat → Prop} {j : Nat} {px : Pos} (ha : Py X a (.urn p u :: r) (.tup ts)) (hb : PyEt X b p u r m fun t => ∃ n, n < ts.length ∧ t = natT n) (hs : PlainIx b := by intro _ _; rfl) : PyEt X (.Subscript a b pos) p u r m fun t => t ∈ ts :=
  PyE.of (pe_ix ix_tup pe_g pe_e hs) fun σ H C B st => g_use ha st fun v H1 s1 q1 => e_use hb (st.mono s1) fun w H2 u' uf ⟨hu, t, ⟨n, hn, et⟩, im⟩ _ => by
    subst et
    obtain ⟨l, xs, rfl, hs, hm⟩ := Im.tup_eq q1
    have tk := uf.tk (K := X.K) (st_urn (st.mono s1)).2.2
    obtain ⟨v, hv, iv⟩ := (hm.tk tk).get (List.getElem?_eq_getElem hn)
    exact ⟨l, xs, n, v, rfl, Im.int_eq im, tk.s _ _ hs, atI_nat hv, u', uf.same s1, hu, _, List.getElem_mem hn, iv⟩
theorem e_ixL (i : Nat) {ts : List T} {x : Str} {px : Pos} (hi : r[i]? = some (.sq ts)) (hb : PyEt X b p u r m fun t => ∃ n, n < ts.length ∧ t = natT n) (hs : PlainIx b := by intro _ _; rfl) (hN : X.N[i + 1]? = some x := by rfl)
    (hv : Vis X.env.scope x := by first | exact Or.inl rfl | exact Or.inr (Or.inl rfl) | exact Or.inr (Or.inr rfl)) (hd : (x == ("__debug__" : Str)) = false := by decide) (hcd : (x == ("__classdict__" : Str)) = false := by decide) : PyEt X (.Subscript (.Name x px) b pos) p u r m fun t => t ∈ ts :=
  PyE.of (pe_ix ix_list (pe_var hN hv hd hcd) pe_e hs) fun σ H C B st => by
    obtain ⟨l, xs, el, hl, hm⟩ := st.slots (i + 1) _ (show (Sl.urn p u :: r)[i + 1]? = some (.sq ts) from hi)
    refine ⟨.ref l, join_some el, e_use hb st fun w H2 u' uf ⟨hu, t, ⟨n, hn, et⟩, im⟩ _ => ?_⟩
    subst et
    have st2 := uf.st st
    have tk := uf.tk (K := X.K) (st_urn st).2.2
    obtain ⟨v, hv, iv⟩ := (hm.tk tk).get (List.getElem?_eq_getElem hn)
    exact ⟨l, xs, n, v, rfl, Im.int_eq im, (st2.cb.trans st2.base).seq hl, atI_nat hv, u', uf, hu, _, List.getElem_mem hn, iv⟩
theorem ea_P {t : T} {GL : List T → Prop} (h : Py X e (.urn p u :: r) t) (hr : PaE X es p u r m GL) (hs : starEach (e :: es) X.env = (false, eval e X.env) :: starEach es X.env := by rfl) : PaE X (e :: es) p u r m fun ts => ∃ ts', GL ts' ∧ ts = t :: ts' :=
  PaE.of (pa_cons pe_g pa_e hs) fun σ H C B st => g_use h st fun v H1 s1 q1 => ea_use hr (st.mono s1) fun vs H2 u' ts uf hu g im =>
    ⟨u', uf.same s1, hu, _, ⟨ts, g, rfl⟩, .cons (Im.tk (uf.tk (st_urn (st.mono s1)).2.2) q1) im⟩
theorem ea_E {ts : List T} (h : PyEt X e p u r m G) (hr : ∀ u', Urn m u' → Pa X es (.urn p u' :: r) ts) (hs : starEach (e :: es) X.env = (false, eval e X.env) :: starEach es X.env := by rfl) : PaE X (e :: es) p u r m fun ts' => ∃ t, G t ∧ ts' = t :: ts :=
  PaE.of (pa_cons pe_e pa_g hs) fun σ H C B st => e_use h st fun v H1 u' uf ⟨hu, t, g, im⟩ _ => ga_use (hr u' hu) (uf.st st) fun vs H2 s2 q2 =>
    ⟨u', uf.post s2, hu, _, ⟨t, g, rfl⟩, .cons (im.mono s2) (ArgsOk.all q2)⟩
theorem e_tup {GL : List T → Prop} {kk : Nat} (h : PaE X es p u r m GL) (hl : ∀ ts, GL ts → ts.length ≤ 1000) : PyEt X (.Tuple es kk pos) p u r m fun t => ∃ ts, GL ts ∧ t = .tup ts :=
  PyE.of (pe_tup pa_e) fun σ H C B st => ea_use h st fun vs H1 u' ts uf hu g im => ⟨by rw [im.length]; exact Nat.le_of_lt (small1000 (hl ts g)), fun q hq =>
    ⟨u', uf.post (same_new hq), hu, _, ⟨ts, g, rfl⟩, .tup (SqT.of upd_same) (im.mono (same_new hq))⟩⟩
/-- t[:e] -/
theorem e_sl {ts : List T} {P : Nat → Prop} {p2 : Pos} (h : Py X e (.urn p u :: r) (.tup ts)) (hh : PyEt X b p u r m fun t => ∃ n, P n ∧ t = natT n) : PyEt X (.Subscript e (.Slice none (some b) none p2) pos) p u r m fun t => ∃ n, P n ∧ t = .tup (cutT ts none (some (n : Int))) :=
  PyE.of (pe_slice sl_tupA pe_g po_none (po_some pe_e)) fun σ H C B st => g_use h st fun v H1 s1 q1 => e_use hh (st.mono s1) fun w H2 u' uf ⟨hu, t, ⟨n, hn, et⟩, im⟩ _ => by
    subst et
    obtain ⟨a, xs, rfl, hs, hm⟩ := Im.tup_eq q1
    have tk := uf.tk (K := X.K) (st_urn (st.mono s1)).2.2
    have hs2 := tk.s _ _ hs
    have hm2 := hm.tk tk
    refine ⟨n, Im.int_eq im, a, xs, rfl, hs2, fun hw => ⟨u', uf.same s1, hu, _, ⟨n, hn, rfl⟩, ?_⟩, fun hw q hq => ⟨u', (uf.same s1).post (same_new hq), hu, _, ⟨n, hn, rfl⟩, .tup (SqT.of upd_same) ((hm2.cut _ _).mono (same_new hq))⟩⟩
    rw [hm.length] at hw
    rw [sIx_self (n := 0) hw.1 hw.2]
    exact .tup hs2 hm2
/-- take(..) == 0 -/
theorem te_eq0 {R : Uv → Prop} (ha : PyEt X a p u r m fun t => ∃ n : Nat, t = natT n) (hb : ∀ u', Urn m u' → Py X b (.urn p u' :: r) (natT 0)) : PtE X (.Compare a [.Eq] [b] pos) p u r fun u' k => Urn m u' :=
  PtE.of (pt_cmpR op_eq pe_e pe_g (nomark _)) fun σ H C B st => e_use ha st fun v H1 u' uf ⟨hu, t, ⟨n, et⟩, im⟩ _ => g_use (hb u' hu) (uf.st st) fun w H2 s2 q2 => by
    subst et
    rw [Im.int_eq im, Im.int_eq q2]
    exact ⟨rfl, _, rfl, u', uf.post s2, hu⟩
/-- tuple(a new list) -/
theorem e_tupleL {GL : List T → Prop} {px : Pos} (h : PyEl X e p u r m GL) (hm : X.mg "tuple" = none) (hg : Gl X "tuple" := by rfl) (he : starEach [e] X.env = (false, eval e X.env) :: starEach [] X.env := by rfl) (hpl : (backTo pos (starEach [] X.env)).any (·.1) = false := by rfl) :
    PyEt X (.Call (.Name "tuple" px) [e] [] pos) p u r m fun t => ∃ ts, GL ts ∧ t = .tup ts :=
  PyE.of (pe_callTy call_tuple_of hg hm (by decide +kernel) (pa_cons pe_e pa_nil he) (by decide) (by decide) he hpl) fun σ H C B st => e_use h st fun v H1 u' uf ⟨hu, ts, g, q, xs, ev, n, hl, im⟩ _ => by
    subst ev
    exact ⟨q, xs, rfl, .inl ⟨SqL.of hl, fun l hl => ⟨u', uf.post (same_new hl), hu, _, ⟨ts, g, rfl⟩, .tup (SqT.of upd_same) (im.mono (same_new hl))⟩⟩⟩
end
end Nine
set_option maxHeartbeats 4000000
/-! K9J2: the urn: walks, comprehensions, statements, a def by its body. -/
namespace Nine
open PySem PySem.Spec PyProof.Rows L2
/-- an iterable that changes the urn -/
def PiE (X : Cx) (tg iter : Expr) (p : Addr) (u : Uv) (r : List Sl) (m : Nat) (G : List T → Prop) : Prop :=
  ∀ (pins : List (Addr × Obj)) (s : Shared) (σ : L2.St) (H C B : Hp), Inv X pins σ H s → StR X.K C B σ H (.urn p u :: r) →
    wpAny (model X.prog X.w) X.A (eval iter X.env) (fun v s1 => wpAny (model X.prog X.w) X.A (pyIter v) (PIE X pins σ tg fun J H' => ∃ u' ts, UF H p u' H' ∧ Urn m u' ∧ G ts ∧ ItOk X.K (calm σ (.urn p u' :: r) H') J ts) X.xe s1) X.xe s
def tPiE (X : Cx) (tg iter : Expr) : TI := fun σ H R => ∃ p u r C B m G, PiE X tg iter p u r m G ∧ StR X.K C B σ H (.urn p u :: r) ∧ ∀ J H' u' ts, UF H p u' H' → Urn m u' → G ts → ItOk X.K (calm σ (.urn p u' :: r) H') J ts → R J H'
section
variable {X : Cx} {e a b c tg iter elt : Expr} {es ifs : List Expr} {r : List Sl} {pos : Pos} {p : Addr} {u : Uv} {m m' : Nat} {scope : Scope} {own : List (Str × Nat)}
theorem pi_e : PI X tg iter (tPiE X tg iter) := ⟨fun pins s σ H R I h => by
  obtain ⟨p, u, r, C, B, m, G, g, st, k⟩ := h
  exact thn (g pins s σ H C B I st) fun v s1 h1 => thn h1 fun itv s2 h2 => pie_mono h2 fun J H' ⟨u', ts, uf, hu, g, io⟩ => k J H' u' ts uf hu g io⟩
theorem PiE.of {G : List T → Prop} {wi : TI} (h : PI X tg iter wi) (y : ∀ σ H C B, StR X.K C B σ H (.urn p u :: r) → wi σ H fun J H' => ∃ u' ts, UF H p u' H' ∧ Urn m u' ∧ G ts ∧ ItOk X.K (calm σ (.urn p u' :: r) H') J ts) : PiE X tg iter p u r m G :=
  fun pins s σ H C B I st => h.run pins s σ H _ I (y σ H C B st)
theorem PiI.toE {ts : List T} (h : PiI X tg iter (.urn p u :: r) ts) (hu : Urn m u) : PiE X tg iter p u r m fun ts' => ts' = ts := PiE.of pi_g fun σ H C B st =>
  ⟨_, C, B, ts, h, st, fun J H' s io => ⟨u, ts, (UF.refl (st_urn st).2.2).post s, hu, rfl, io⟩⟩
theorem i_rngE {P : Nat → Prop} {px : Pos} (h : PyEt X a p u r m fun t => ∃ n, P n ∧ t = natT n) (hn : ∀ n, P n → n ≤ 100000) (hm : X.mg "range" = none) (hg : Gl X "range" := by rfl) (hs : starEach [a] X.env = [(false, eval a X.env)] := by rfl) :
    PiE X tg (.Call (.Name "range" px) [a] [] pos) p u r m fun ts => ∃ n, P n ∧ ts = (List.range n).map natT := PiE.of (pi_range1 hg hm (pa_cons pe_e pa_nil hs) hs) fun σ H C B st => e_use h st fun v H1 u' uf ⟨hu, t, ⟨n, pn, et⟩, im⟩ _ => by
  subst et
  have hn' := hn n pn
  refine ⟨n, by rw [Im.int_eq im], by omega, by omega, u', _, uf, hu, ⟨n, pn, rfl⟩, ?_⟩
  have := itok_range (K := X.K) (B := calm σ (.urn p u' :: r) H1) (lo := 0) hn'
  simp only [Int.zero_add] at this
  exact this
theorem i_tupE {G : List T → Prop} (h : PyEt X iter p u r m fun t => ∃ ts, G ts ∧ t = .tup ts) : PiE X tg iter p u r m G := PiE.of (pi_tup pe_e) fun σ H C B st => e_use h st fun x H1 u' uf ⟨hu, t, ⟨ts, g, et⟩, im⟩ w => by
  subst et
  obtain ⟨a, xs, rfl, hs, hm⟩ := Im.tup_eq im
  have st1 := uf.st st
  exact ⟨a, rfl, ⟨xs, hs⟩, u', ts, uf, hu, g, itok_tup (w.tup hs) (st1.calm_t hs) (st1.calm_ims hm)⟩

/-! ### comprehensions -/
def PtsE (X : Cx) (ifs : List Expr) (p : Addr) (u : Uv) (r : List Sl) (R : Uv → Bool → Prop) : Prop := ∀ (pins : List (Addr × Obj)) (s : Shared) (σ : L2.St) (H C B : Hp), Inv X pins σ H s → StR X.K C B σ H (.urn p u :: r) →
  wpAny (model X.prog X.w) X.A (forIn ifs true fun c r => if r = true then do let ok ← isTrue c X.env (eval c X.env); pure (ForInStep.yield ok) else pure (ForInStep.yield r)) (TP X pins σ fun k H' => ∃ u', UF H p u' H' ∧ R u' k) X.xe s
theorem tse_nil {R : Uv → Bool → Prop} (h : R u true) : PtsE X [] p u r R := fun pins s σ H C B I st => pts_nil.run pins s σ H _ I ⟨u, UF.refl (st_urn st).2.2, h⟩
theorem tse_one {R : Uv → Bool → Prop} (h : PtE X c p u r R) : PtsE X [c] p u r R := fun pins s σ H C B I st => (pts_one pt_e).run pins s σ H _ I (et_use h st fun k H' u' uf q => ⟨u', uf, q⟩)
def bE (X : Cx) (scope : Scope) (e : Expr) : TE := fun σ H Q => ∃ p u r C B R, (∀ s H C cl fp, PyE (Bk X scope s H C cl fp) e p u r R) ∧ StR X.K C B σ H (.urn p u :: r) ∧ ∀ v H' u', UF H p u' H' → R u' H v H' → Q v H'
def bET (X : Cx) (scope : Scope) (ifs : List Expr) : TT := fun σ H Q => ∃ p u r C B R, (∀ s H C cl fp, PtsE (Bk X scope s H C cl fp) ifs p u r R) ∧ StR X.K C B σ H (.urn p u :: r) ∧ ∀ k H' u', UF H p u' H' → R u' k → Q k H'
theorem pe_be (s : Shared) (H : Hp) (C : Addr) (cl : List (Str × Addr)) (fp : List Addr) : PE (Bk X scope s H C cl fp) e (bE X scope e) := ⟨fun pins s' σ H' Q I h => by
  obtain ⟨p, u, r, C', B, R, g, st, k⟩ := h
  exact thn (g s H C cl fp pins s' σ H' C' B I st) fun w s2 ⟨v, H2, I2, rv, u', uf, q⟩ => ⟨v, H2, I2, rv, k v H2 u' uf q⟩⟩
theorem pts_be (s : Shared) (H : Hp) (C : Addr) (cl : List (Str × Addr)) (fp : List Addr) : PTs (Bk X scope s H C cl fp) ifs (bET X scope ifs) := ⟨fun pins s' σ H' Q I h => by
  obtain ⟨p, u, r, C', B, R, g, st, k⟩ := h
  exact thn (g s H C cl fp pins s' σ H' C' B I st) fun b s2 ⟨H2, I2, u', uf, q⟩ => ⟨H2, I2, k b H2 u' uf q⟩⟩
theorem StR.other {K : PySem.W.Frag} {C B H : Hp} {σ : L2.St} {ρ : List Sl} {D : Addr} {o : HO} (st : StR K C B σ H ρ) (hB : B D = none) (hO : ¬ OwnAt σ ρ D) (k : TK K H (upd H D o)) : StR K C B σ (upd H D o) ρ :=
  ⟨st.cb, same_mut st.base hB, st.len, fun i a ha => SlOk.tk k (fun mi q z => upd_ne fun e => hO ⟨i, a, ha, mi, by rw [z, e]⟩) (st.slots i a ha), st.apart⟩
/-- [elt for tg in iter if ..], the urn changed on the way, c times a turn at most; Ac: what the new list is -/
theorem e_lc {G : List T → Prop} {m0 c : Nat} (L : Nat) (Ac : List T → Nat → List T → Prop) (is : List Nat) (hc : X.calm = true) (hN : X.N.Nodup) (hi : PiE X tg iter p u r m0 G) (ok : BlkOk X.N X.env.scope scope own) (his : ∀ i ∈ is, i ∈ own.map (·.2))
    (few : ∀ ts, G ts → ts.length ≤ L) (a0 : ∀ ts, G ts → Ac ts 0 [])
    (turn : ∀ ts i t u', G ts → ts[i]? = some t → Urn (m0 + i * c) u' → ∃ r1 Rb, (∀ s H C cl fp, PgT (Bk X scope s H C cl fp) tg is (dropR (.urn p u' :: r) (own.map (·.2))) t (.urn p u' :: r1) ∧ PtsE (Bk X scope s H C cl fp) ifs p u' r1 Rb ∧
      ∀ u2, Rb u2 true → PyEt (Bk X scope s H C cl fp) elt p u2 r1 (m0 + (i + 1) * c) fun v => ∀ acc, Ac ts i acc → Ac ts (i + 1) (acc ++ [v])) ∧ ∀ u2, Rb u2 false → Urn (m0 + (i + 1) * c) u2 ∧ ∀ acc, Ac ts i acc → Ac ts (i + 1) acc)
    (hs : ∀ x, foldedSetIterable iter X.env x = pure x := by intro _; rfl) : PyEl X (.ListComp elt [⟨tg, iter, ifs, 0⟩] scope pos) p u r (m0 + L * c) fun acc => ∃ ts, G ts ∧ Ac ts ts.length acc := by
  refine PyE.of (pe_lc hc hN pi_e ok pg_b pts_be pe_be hs) fun σ H C B st => ?_
  refine ⟨p, u, r, C, B, m0, G, hi, st, fun J H1 u1 ts uf1 hu1 g io D hD => ?_⟩
  have st1 := uf1.st st
  obtain ⟨GJ, Y, w, hG, hY⟩ := io.ex
  have hsz := io.small
  have noD : ∀ u', ¬ OwnAt σ (.urn p u' :: r) D := fun u' z => (st1.own_none (own_urn.mp z)).2.2.2 hD
  have cD : calm σ (.urn p u1 :: r) H1 D = none := calm_same.free hD
  have nDp : D ≠ p := fun z => by rw [z, uf1.at_] at hD; cases hD
  refine lc_it w (Qd := fun H' => ∃ u', UF H p u' H' ∧ Urn (m0 + L * c) u' ∧ ∃ acc, (∃ ts, G ts ∧ Ac ts ts.length acc) ∧ NewOk X.K H H' (.ref D) (.s acc))
    (fun i H' => ∃ u' acc av, StR X.K C (calm σ (.urn p u1 :: r) H1) σ H' (.urn p u' :: r) ∧ Urn (m0 + i * c) u' ∧ UF H p u' H' ∧ H' D = some (.lst av) ∧ av.length ≤ i ∧ ImAll X.K H' av acc ∧ Ac ts i acc)
    ⟨u1, [], [], st1.calm.mono (same_new hD), by rw [Nat.zero_mul]; exact hu1, uf1.post (same_new hD), upd_same, Nat.le_refl _, .nil, a0 ts g⟩ (fun i H' _ ⟨_, _, _, st', _⟩ => hG H' st'.base) (fun i x H2 H3 hil ⟨u', acc, av, st2, hu2, uf2, hD2, lv, ia, ac⟩ y => ?_) fun H' ⟨u', acc, av, st', hu', uf', hD', _, ia, ac⟩ => ?_
  · obtain ⟨sy, t, ht, im⟩ := hY i H2 x H3 st2.base hil y
    obtain ⟨r1, Rb, tn, tnF⟩ := turn ts i t u' g ht hu2
    have st3 := st2.mono sy
    refine ⟨is, _, C, calm σ (.urn p u1 :: r) H1, t, _, fun s H C cl fp => (tn s H C cl fp).1, st3.dropR _, im, fun vs hl st4 => ⟨wipe_many his, p, u', r1, C, calm σ (.urn p u1 :: r) H1, Rb, fun s H C cl fp => (tn s H C cl fp).2.1, st4, fun b H4 u4 uf4 rb => ?_⟩⟩
    have st34 := uf4.st st3
    cases b with
    | true =>
      refine iteT ⟨p, u4, r1, C, calm σ (.urn p u1 :: r) H1, fun u' _ v H' => Urn (m0 + (i + 1) * c) u' ∧ ∃ t, (∀ acc, Ac ts i acc → Ac ts (i + 1) (acc ++ [t])) ∧ Im X.K H' v t, fun s H C cl fp => (tn s H C cl fp).2.2 u4 rb, uf4.st st4, fun y5 H5 u5 uf5 ⟨hu5, v5, g5, im5⟩ => ?_⟩
      have st35 := uf5.st st34
      have e3 := sy _ _ hD2
      have e5 : H5 D = some (.lst av) := uf5.ne (uf4.ne e3 nDp) nDp
      have tk : TK X.K H2 H5 := ((tk_same sy).trans (uf4.tk (st_urn st3).2.2)).trans (uf5.tk (st_urn st34).2.2)
      have k5 : TK X.K H5 (L2.upd H5 D (.lst (av ++ [y5]))) := tk_upd (fun xs z => by rw [e5] at z; cases z) fun w xs z => by rw [e5] at z; cases z
      have hat5 : (L2.upd H5 D (.lst (av ++ [y5]))) p = some (.lst (urnV u5)) := by rw [upd_ne (Ne.symm nDp)]; exact uf5.at_
      refine ⟨av, e5, by omega, u5, acc ++ [v5], av ++ [y5], st35.other cD (noD u5) k5, hu5, ?_, upd_same, by rw [List.length_append, List.length_singleton]; omega, ((ia.tk tk).append (.one im5)).tk k5, g5 acc ac⟩
      refine ⟨fun b' o e => ?_, hat5⟩
      have e5' := (((uf2.post sy).trans uf4).trans uf5).off _ _ e
      have nb : b' ≠ D := fun z => by
        have n := uf1.free hD
        rw [z, del_ne nDp, n] at e
        cases e
      rw [upd_ne nb]
      exact e5'
    | false =>
      refine iteF ?_
      obtain ⟨hu4, g4⟩ := tnF u4 rb
      have e3 := sy _ _ hD2
      exact ⟨u4, acc, av, st34, hu4, (uf2.post sy).trans uf4, uf4.ne e3 nDp, by omega, ia.tk ((tk_same sy).trans (uf4.tk (st_urn st3).2.2)), g4 acc ac⟩
  · have hL := few ts g
    exact ⟨u', uf', hu'.mono (Nat.add_le_add_left (Nat.mul_le_mul_right c hL) m0), acc, ⟨ts, g, ac⟩, D, av, rfl, uf1.free hD, hD', ia⟩
end

/-! ### statements -/
section
variable {X : Cx} {e a b c tg iter : Expr} {es : List Expr} {r ρ : List Sl} {pos p' : Pos} {p : Addr} {u : Uv} {m : Nat} {rest body : List Stmt} {D : De} {G : T → Prop}
/-- x = e -/
theorem ru_setE (i : Nat) {x : Str} (hN : X.N.Nodup) (he : PyEt X e p u r m G) (k : ∀ u' t, Urn m u' → G t → Ru X rest (.urn p u' :: r.set i (.val t)) D) (hi : X.N[i + 1]? = some x := by rfl) (hx : Loc X.env.scope x := by first | exact Or.inl rfl | exact Or.inr rfl)
    (hf : X.fn x = true ∨ X.env.scope.names.lookup x = some .local := by first | exact .inl rfl | exact .inr rfl) (hs : swapsWith e (some (.Name x p')) pos.line X.env = pure false := by rfl) : Ru X (.Assign [.Name x p'] e pos :: rest) (.urn p u :: r) D :=
  Ru.of (pss_cons (ps_set hN hi hx pe_e hs hf) pss_ru) fun σ H C B st => e_use he st fun v H1 u' uf ⟨hu, t, g, im⟩ _ => ru_use (k u' t hu g) (StR.setv (i := i + 1) (a := .val t) (uf.st st) ⟨v, rfl, im⟩ rfl)
theorem ru_retE (he : PyEt X e p u r m G) (k : ∀ u' t, Urn m u' → G t → D.ru t (.urn p u' :: r)) : Ru X (.Return (some e) pos :: rest) (.urn p u :: r) D :=
  Ru.of (pss_cons (ps_ret pe_e) pss_never) fun σ H C B st => e_use he st fun v H1 u' uf ⟨hu, t, g, im⟩ _ => .inr ⟨t, σ, _, uf.st st, im, k u' t hu g⟩
theorem ru_retP {t : T} (he : Py X e ρ t) (k : D.ru t ρ) : Ru X (.Return (some e) pos :: rest) ρ D :=
  Ru.of (pss_cons (ps_ret pe_g) pss_never) fun σ H C B st => g_use he st fun v H1 s1 q1 => .inr ⟨t, σ, ρ, st.mono s1, q1, k⟩
/-- urn[j] = e -/
theorem ru_uput {x : Str} {n i : Int} {j : Nat} {ke : Expr} {px : Pos} (u' : Uv) (he : Py X e (.urn p u :: r) (.int n)) (hk : Py X ke (.urn p u :: r) (.int i)) (hj : ixN 3 i = some j) (hu : (urnV u).set j (.int n) = urnV u') (q : Ru X rest (.urn p u' :: r) D) (hN : X.N[0]? = some x := by rfl)
    (hv : Vis X.env.scope x := by first | exact Or.inl rfl | exact Or.inr (Or.inl rfl) | exact Or.inr (Or.inr rfl)) (hd : (x == ("__debug__" : Str)) = false := by decide) (hcd : (x == ("__classdict__" : Str)) = false := by decide)
    (hps : PS X (.Assign [.Subscript (.Name x px) ke p'] e pos) (tAsg (tG X e) (gSub (tVar 0) (tG X ke) rSetL)) := by exact ps_asg pe_g (pg_sub (pv _) pe_g set_list)) : Ru X (.Assign [.Subscript (.Name x px) ke p'] e pos :: rest) (.urn p u :: r) D :=
  Ru.of (pss_cons hps pss_ru) fun σ H C B st => g_use he st fun v H1 s1 q1 => by
    obtain ⟨e0, hb, hp⟩ := st_urn st
    refine ⟨.ref p, join_some e0, g_use hk (st.mono s1) fun w H2 s2 q2 => ?_⟩
    have e3 := s2 _ _ (s1 _ _ hp)
    have ev : v = .int n := Im.int_eq q1
    subst ev
    refine ⟨p, urnV u, _, j, rfl, Im.int_eq q2, e3, hj, ru_use q ?_⟩
    rw [hu]
    exact (st.mono (s1.trans s2)).write (i := 0) (a := .urn p u) (b := .urn p u') rfl rfl e0 fun tk => ⟨rfl, hb, upd_same⟩
/-- x.append(e) -/
theorem ru_appendE (i : Nat) {x : Str} {ts : List T} {px pa_ pc : Pos} (hi : r[i]? = some (.own ts)) (he : PyEt X e p u r m G) (k : ∀ u' t, Urn m u' → G t → Ru X rest (.urn p u' :: r.set i (.own (ts ++ [t]))) D) (hl : ts.length < 100000) (hN : X.N[i + 1]? = some x := by rfl)
    (hv : Vis X.env.scope x := by first | exact Or.inl rfl | exact Or.inr (Or.inl rfl) | exact Or.inr (Or.inr rfl))
    (hpe : PE X (.Call (.Attribute (.Name x px) "append" pa_) [e] [] pc) (tBM X.K "list" rAppend (tVar (i + 1)) (tCons (tE X e) tNil)) := by exact pe_bm PySem.F.plainAttrs_list PySem.F.slot_list_append PySem.F.type_list_append mt_append (pv _) (pa_cons pe_e pa_nil))
    (hsw : swapsWith (.Call (.Attribute (.Name x px) "append" pa_) [e] [] pc) none pos.line X.env = pure false := by rfl) :
    Ru X (.Expr (.Call (.Attribute (.Name x px) "append" pa_) [e] [] pc) pos :: rest) (.urn p u :: r) D :=
  Ru.of (pss_cons (ps_expr hpe hsw) pss_ru) fun σ H C B st => by
    obtain ⟨q, xs, ep, n, e2, m2⟩ := st.slots (i + 1) _ (show (Sl.urn p u :: r)[i + 1]? = some (.own ts) from hi)
    refine ⟨.ref q, join_some ep, lst_ty e2, e_use he st fun v H1 u' uf ⟨hu, t, g, im⟩ _ => ?_⟩
    have st1 := uf.st st
    obtain ⟨q', xs', ep', n', e3, m3⟩ := st1.slots (i + 1) _ (show (Sl.urn p u' :: r)[i + 1]? = some (.own ts) from hi)
    have eq : q' = q := by rw [ep] at ep'; cases ep'; rfl
    subst eq
    refine ⟨q', xs', v, rfl, rfl, e3, by rw [m3.length, sizeLine_eq]; omega, ru_use (k u' t hu g) ?_⟩
    exact st1.write (i := i + 1) (a := .own ts) (b := .own (ts ++ [t])) hi rfl ep fun tk => ⟨q', _, rfl, n', upd_same, (m3.append (.one im)).tk tk⟩
/-- x[k] = e, a dict -/
theorem ru_dputE (i : Nat) {x : Str} {kvs : List (Str × T)} {kk : Str} {ke : Expr} {px : Pos} (hu9 : X.A.units + 1 < cLine) (hi : r[i]? = some (.dic kvs)) (he : PyEt X e p u r m G) (hk : ∀ u', Urn m u' → Py X ke (.urn p u' :: r) (.str kk)) (q : ∀ u' t, Urn m u' → G t → Ru X rest (.urn p u' :: r.set i (.dic (dPut kvs kk t))) D) (hl : kvs.length < 100000) (hN : X.N[i + 1]? = some x := by rfl)
    (hv : Vis X.env.scope x := by first | exact Or.inl rfl | exact Or.inr (Or.inl rfl) | exact Or.inr (Or.inr rfl)) (hd : (x == ("__debug__" : Str)) = false := by decide) (hcd : (x == ("__classdict__" : Str)) = false := by decide)
    (hs : swapsWith e (some (.Subscript (.Name x px) ke p')) pos.line X.env = pure false := by rfl) : Ru X (.Assign [.Subscript (.Name x px) ke p'] e pos :: rest) (.urn p u :: r) D :=
  Ru.of (pss_cons (ps_dput hu9 (pe_var hN hv hd hcd) pe_g pe_e hs) pss_ru) fun σ H C B st => e_use he st fun v H1 u' uf ⟨hu, t, g, im⟩ _ => by
    have st1 := uf.st st
    obtain ⟨l, ks, ep, n, e2, m2⟩ := st1.slots (i + 1) _ (show (Sl.urn p u' :: r)[i + 1]? = some (.dic kvs) from hi)
    refine ⟨.ref l, join_some ep, g_use (hk u' hu) st1 fun w H2 s2 q2 => ?_⟩
    have e3 := s2 _ _ e2
    refine ⟨l, L2.upd H2 l (.dK (putK ks (.inr kk) v)), rfl, ?_, ru_use (q u' t hu g) ?_⟩
    · rw [Im.str_eq q2]
      exact DPut.k (k := (.inr kk : Key)) e3 (by rw [m2.length, sizeLine_eq]; omega)
    · exact (st1.mono s2).write (i := i + 1) (a := .dic kvs) (b := .dic (dPut kvs kk t)) hi rfl ep fun tk => ⟨l, _, rfl, n, upd_same, ((m2.tk (tk_same s2)).put (im.mono s2)).tk tk⟩
/-- a, b = e, e2 (the first changes the urn), plain locals -/
theorem ru_parE (i j : Nat) {x y : Str} {w : A4} {px py pt : Pos} {kt k2 pt2} (hc : X.calm = true) (hN : X.N.Nodup) (hij : i ≠ j) (h1 : PyEt X a p u r m G) (h2 : ∀ u', Urn m u' → PyN X b (.urn p u' :: r) w) (k : ∀ u' t, Urn m u' → G t → Ru X rest (.urn p u' :: (r.set i (.val t)).set j (slA w)) D)
    (hi : X.N[i + 1]? = some x := by rfl) (hj : X.N[j + 1]? = some y := by rfl) (hx : X.env.scope.names.lookup x = some .local := by rfl) (hy : X.env.scope.names.lookup y = some .local := by rfl)
    (hw : swappedStores [.Tuple [.Name x px, .Name y py] kt pt] (.Tuple [a, b] k2 pt2) X.env = pure (some [x, y]) := by rfl)
    (hs : swapsWithSole [.Tuple [.Name x px, .Name y py] kt pt] (.Tuple [a, b] k2 pt2) pos.line X.env = pure false := by rfl)
    (e1 : starEach [a, b] X.env = (false, eval a X.env) :: starEach [b] X.env := by rfl) (e2 : starEach [b] X.env = (false, eval b X.env) :: starEach [] X.env := by rfl) :
    Ru X (.Assign [.Tuple [.Name x px, .Name y py] kt pt] (.Tuple [a, b] k2 pt2) pos :: rest) (.urn p u :: r) D :=
  Ru.of (pss_cons (ps_par hc hN hi hj (fun z => hij (by omega)) hx hy (pa_cons pe_e (pa_cons pe_g pa_nil e2) e1) hw hs) pss_ru) fun σ H C B st => e_use h1 st fun v H1 u' uf ⟨hu, t, g, im⟩ _ => g_use (h2 u' hu) (uf.st st) fun v2 H2 s2 q2 => by
    have st2 := (uf.st st).mono s2
    have sta : StR X.K C B (σ.set (i + 1) (some v)) H2 ((Sl.urn p u' :: r).set (i + 1) (.val t)) := st2.setv (i := i + 1) ⟨v, rfl, im.mono s2⟩ rfl
    refine ⟨v, v2, rfl, ru_use (k u' t hu g) ?_⟩
    refine sta.put (i := j + 1) (q2.down (uf.st st).base) fun mi pp ev z => ?_
    rcases own_set z with z | ⟨mx, _⟩
    · exact new_no (uf.st st) q2 mi pp ev z
    · cases mx
/-- a, b = e, e2, both change the urn -/
theorem ru_parE2 (i j : Nat) {x y : Str} {m' : Nat} {G2 : T → Prop} {px py pt : Pos} {kt k2 pt2} (hc : X.calm = true) (hN : X.N.Nodup) (hij : i ≠ j) (h1 : PyEt X a p u r m G) (h2 : ∀ u', Urn m u' → PyEt X b p u' r m' G2) (k : ∀ u' t t2, Urn m' u' → G t → G2 t2 → Ru X rest (.urn p u' :: (r.set i (.val t)).set j (.val t2)) D)
    (hi : X.N[i + 1]? = some x := by rfl) (hj : X.N[j + 1]? = some y := by rfl) (hx : X.env.scope.names.lookup x = some .local := by rfl) (hy : X.env.scope.names.lookup y = some .local := by rfl)
    (hw : swappedStores [.Tuple [.Name x px, .Name y py] kt pt] (.Tuple [a, b] k2 pt2) X.env = pure (some [x, y]) := by rfl)
    (hs : swapsWithSole [.Tuple [.Name x px, .Name y py] kt pt] (.Tuple [a, b] k2 pt2) pos.line X.env = pure false := by rfl)
    (e1 : starEach [a, b] X.env = (false, eval a X.env) :: starEach [b] X.env := by rfl) (e2 : starEach [b] X.env = (false, eval b X.env) :: starEach [] X.env := by rfl) :
    Ru X (.Assign [.Tuple [.Name x px, .Name y py] kt pt] (.Tuple [a, b] k2 pt2) pos :: rest) (.urn p u :: r) D :=
  Ru.of (pss_cons (ps_par hc hN hi hj (fun z => hij (by omega)) hx hy (pa_cons pe_e (pa_cons pe_e pa_nil e2) e1) hw hs) pss_ru) fun σ H C B st => e_use h1 st fun v H1 u' uf ⟨hu, t, g, im⟩ _ => e_use (h2 u' hu) (uf.st st) fun v2 H2 u2 uf2 ⟨hu2, t2, g2, im2⟩ _ => by
    have st1 := uf.st st
    have st2 := uf2.st st1
    have im' := im.tk (uf2.tk (st_urn st1).2.2)
    refine ⟨v, v2, rfl, ru_use (k u2 t t2 hu2 g g2) ?_⟩
    have sta : StR X.K C B (σ.set (i + 1) (some v)) H2 ((Sl.urn p u2 :: r).set (i + 1) (.val t)) := st2.setv (i := i + 1) ⟨v, rfl, im'⟩ rfl
    exact sta.setv (i := j + 1) (a := .val t2) ⟨v2, rfl, im2⟩ rfl
/-- a for over an iterable that changes the urn -/
theorem ru_forE {GL : List T → Prop} (hc : X.calm = true) (hi : PiE X tg iter p u r m GL) (Pv : List T → Nat → List Sl → Prop) (h0 : ∀ u' ts, Urn m u' → GL ts → Pv ts 0 (.urn p u' :: r))
    (turn : ∀ ts i t ρ, GL ts → ts[i]? = some t → Pv ts i ρ → ∃ is ρ1, PgT X tg is ρ t ρ1 ∧ Ru X body ρ1 { D with nx := Pv ts (i + 1), ct := Pv ts (i + 1), ru := fun _ _ => False })
    (fin : ∀ ts ρ, GL ts → Pv ts ts.length ρ → Ru X rest (ρ.map Sl.unrb) D) (hp : PassesOwn (model X.prog X.w) X.A X.env X.xe := by exact PassesOwn.never) (hs : ∀ x, foldedSetIterable iter X.env x = pure x := by intro _; rfl) : Ru X (.For tg iter body [] pos :: rest) (.urn p u :: r) D :=
  Ru.of (pss_cons (ps_for hp hc pi_e pg_g pss_ru hs) pss_ru) fun σ H C B st => by
    refine ⟨p, u, r, C, B, m, GL, hi, st, fun J H1 u1 ts uf hu g io => ?_⟩
    obtain ⟨GJ, Y, w, hG, hY⟩ := io.ex
    have st1 := uf.st st
    have cb : Same B (calm σ (.urn p u1 :: r) H1) := st1.calm_b
    refine for_it w (fun i σ2 H2 => ∃ ρ2, StR X.K C (calm σ (.urn p u1 :: r) H1) σ2 H2 ρ2 ∧ Pv ts i ρ2) ⟨_, st1.calm, h0 u1 ts hu g⟩ (fun i σ2 H2 _ p => ?_) (fun i x σ2 H2 H3 hil p y => ?_) fun σ2 H2 p => ?_
    · obtain ⟨ρ2, st2, _⟩ := p
      exact hG H2 st2.base
    · obtain ⟨ρ2, st2, pv⟩ := p
      obtain ⟨sy, t, ht, im⟩ := hY i H2 x H3 st2.base hil y
      obtain ⟨is, ρ3, gg, b⟩ := turn ts i t ρ2 g ht pv
      exact ⟨is, ρ2, C, _, t, ρ3, gg, st2.mono sy, im, fun vs hl st3 => ⟨ρ3, C, _, _, b, st3, fun σ' H' h => h, fun v H' h => en_down (C := C) cb h, fun σ' H' h => h⟩⟩
    · obtain ⟨ρ2, st2, pv⟩ := p
      exact ru_use (fin ts ρ2 g pv) (st2.down st.cb cb)
end
/-- THE RULE for a def that takes the urn -/
theorem okU {P : Program} {w : World} {K : PySem.W.Frag} {mg : Str → Option Value} {base : Heap} {x nm q n0 : Str} {st : Stmt} {ps N : List Str} {k : Nat} {f : Fn9 K mg x nm st (q :: ps)} {R : List A4 → Nat → (T → Prop) → Prop} (S : FnScope (n0 :: N) (q :: ps) (defScope st))
    (body : ∀ (cdv : Value) (A : Around) (outer : List Env) (s : Shared) (H : Hp) (E : XK) (as : List A4) (need : Nat) (G : T → Prop) (p : Addr) (u : Uv) (m : Nat), Room k (A.deeper (envOfC nm (defScope st) s.heap.objs.size f.a cdv)) → as.length = ps.length → R as need G → Urn m u → m + need ≤ 2 ^ 30 →
      Ru (cxOf CX0 P w K mg base (n0 :: N) nm (defScope st) f.a cdv A outer s H E).nox (defBody st) (.urn p u :: startR N as) { rt := fun _ => False, ru := fun t ρ => G t ∧ ∃ u' r, Urn (m + need) u' ∧ ρ = .urn p u' :: r }) : OkU P w base (k + 1) f R := by
  refine f.F.ok S (fun vs H Q E h => ?_) fun cdv A outer s H vs Q E hr h => ?_
  · obtain ⟨p, us, u, m, need, as, G, rfl, hl, _, _, _, ha, _⟩ := h
    rw [List.length_cons, ha.length, hl, List.length_cons]
  · obtain ⟨p, us, u, m, need, as, G, rfl, hl, hp, hu, hm, ha, hR, q⟩ := h
    have st0 : StR K (del H p) (del H p) (L2.start N us) (del H p) (startR N as) := start_ok ha
    have nm : ∀ a ∈ startR N as, a.mine = false := fun a ha => by
      unfold startR at ha
      rcases List.mem_append.mp ha with z | z
      · obtain ⟨y, _, rfl⟩ := List.mem_map.mp z
        cases y <;> rfl
      · rw [List.eq_of_mem_replicate z]; rfl
    have st1 : StR K (del H p) (del H p) (L2.start (n0 :: N) (.ref p :: us)) H (.urn p u :: startR N as) := by
      have e : L2.start (n0 :: N) (.ref p :: us) = some (.ref p) :: L2.start N us := by
        unfold L2.start
        rw [List.map_cons, List.length_cons, List.length_cons, Nat.add_sub_add_right]
        rfl
      rw [e]
      have st0' := st0.mono (del_same (H := H))
      refine ⟨st0'.cb, st0'.base, by rw [List.length_cons, List.length_cons, st0'.len], fun i b h => ?_, fun i j b c hij h1 h2 m1 m2 => ?_⟩
      · cases i with
        | zero =>
          obtain rfl : Sl.urn p u = b := by simpa using h
          exact ⟨rfl, del_eq, hp⟩
        | succ i => exact st0'.slots i b (by simpa using h)
      · cases i with
        | zero =>
          cases j with
          | zero => exact absurd rfl hij
          | succ j =>
            have h2' : (startR N as)[j]? = some c := by simpa using h2
            rw [nm c (List.mem_of_getElem? h2')] at m2; cases m2
        | succ i =>
          have h1' : (startR N as)[i]? = some b := by simpa using h1
          rw [nm b (List.mem_of_getElem? h1')] at m1; cases m1
    refine ⟨_, pss_ru, _, del H p, del H p, _, body cdv A outer s H E as need G p u m hr hl hR hu hm, st1, fun σ' H' h => ?_, fun v H' h => ?_, fun σ' H' h => ?_⟩
    · obtain ⟨_, _, z⟩ := h; exact z.elim
    · rcases h with ⟨a, sm, n, z⟩ | ⟨t, σ, ρ, st', im, g, u', r, hu', rfl⟩
      · exact z.elim
      · exact q v H' u' t ⟨st'.base, (st_urn st').2.2⟩ hu' g im
    · obtain ⟨_, _, z⟩ := h; exact z.elim
end Nine
set_option maxHeartbeats 4000000
/-! K9J3: taking from the urn, walked. -/
namespace Nine
open PySem PySem.Spec PyProof.Rows L2
section
variable {P : Program} {w : World} {K : PySem.W.Frag} {mg : Str → Option Value} {base : Heap}
def r_take (as : List A4) (need : Nat) (G : T → Prop) : Prop := ∃ low : Nat, 0 < low ∧ low ≤ 1000 ∧ as = [.t (natT low)] ∧ need = 1 ∧ G = fun t => ∃ n, n < low ∧ t = natT n
theorem mod_nat {x : Int} {low : Nat} (h : 0 < low) : ∃ n, n < low ∧ T.int (x % (low : Int)) = natT n := by
  have h1 := Int.emod_nonneg x (show (low : Int) ≠ 0 by omega)
  have h2 := Int.emod_lt_of_pos x (show (0 : Int) < low by omega)
  exact ⟨(x % (low : Int)).toNat, by omega, by unfold natT; rw [Int.toNat_of_nonneg h1]⟩
theorem ok_take (E : E9 K mg) {k : Nat} : OkU P w base (k + 1) E.f_l_take r_take := okU sc_l_take fun cdv A outer s H Ex as need G p u m hr hl h hu hm => by
  obtain ⟨low, h0, h1, rfl, rfl, rfl⟩ := h
  have ua := hu.a
  have ub0 := hu.b0
  have ub1 := hu.b1
  have uc0 := hu.c0
  have uc1 := hu.c1
  have hlow : (0 : Int) < (low : Int) := by omega
  refine ru_if (k := decide (0 < u.1)) (t_gt (y_ixL (t := .int u.1) y_urn y_int rfl) y_int) (fun hk => ?_) fun hk => ru_end ?_
  · refine ru_set 5 (y := .t (.int (u.1 % (low : Int)))) sc_l_take.nd (y_mod (y_intI (y_ixL (t := .int u.1) y_urn y_int rfl) E.b_int) (yv 1) hlow) ?_
    refine ru_uput (u' := (u.1 / (low : Int), u.2)) (n := u.1 / (low : Int)) (i := 0) (j := 0) (y_fdiv (y_ixL (t := .int u.1) y_urn y_int rfl) (yv 1) ⟨hlow, by omega⟩) y_int rfl rfl ?_
    refine ru_retP (t := .int (u.1 % (low : Int))) (yv 5) ⟨mod_nat h0, (u.1 / (low : Int), u.2), _, ⟨Int.ediv_nonneg ua (by omega), ub0, ub1, uc0, by show u.2.2 ≤ ((m + 1 : Nat) : Int); omega⟩, rfl⟩
  · refine ru_uput (u' := (u.1, u.2.1, u.2.2 + 1)) (n := u.2.2 + 1) (i := 2) (j := 2) (y_add (y_ixL (t := .int u.2.2) y_urn y_int rfl) y_int) y_int rfl rfl ?_
    have b2 : u.2.1 ≤ 4611686018427387904 := ub1
    have c2 : u.2.2 + 1 ≤ 1073741824 := by have : (m + 1 : Nat) ≤ 1073741824 := hm; omega
    refine ru_set 2 (y := .t (.int (((u.2.1 + 48271 * (u.2.2 + 1)) * (39373 + (u.2.2 + 1))) % 2147483647))) sc_l_take.nd
      (y_mod (y_intI (y_mul (y_add (y_ixL (t := .int u.2.1) y_urn y_int rfl) (y_mul y_int (y_ixL (t := .int (u.2.2 + 1)) y_urn y_int rfl) (.inl ⟨by decide, by decide⟩))) (y_add y_int (y_ixL (t := .int (u.2.2 + 1)) y_urn y_int rfl)) (.inr ⟨by omega, by omega⟩)) E.b_int) y_int (by decide)) ?_
    generalize ((u.2.1 + 48271 * (u.2.2 + 1)) * (39373 + (u.2.2 + 1))) % 2147483647 = once
    refine ru_set 3 (y := .t (.int (once % 40009 + 7))) sc_l_take.nd (y_add (y_mod (y_intI (yv 2) E.b_int) y_int (by decide)) y_int) ?_
    have f0 := Int.emod_nonneg once (show (40009 : Int) ≠ 0 by decide)
    have f1 := Int.emod_lt_of_pos once (show (0 : Int) < 40009 by decide)
    generalize once % 40009 = fa at f0 f1 ⊢
    refine ru_set 4 (y := .t (.int (((once + (u.2.2 + 1) + u.2.1 / 1000003) * (fa + 7)) % 2147483629))) sc_l_take.nd
      (y_mod (y_intI (y_mul (y_add (y_add (yv 2) (y_ixL (t := .int (u.2.2 + 1)) y_urn y_int rfl)) (y_fdiv (y_ixL (t := .int u.2.1) y_urn y_int rfl) y_int ⟨by decide, by decide⟩)) (yv 3) (.inr ⟨by omega, by omega⟩)) E.b_int) y_int (by decide)) ?_
    generalize ((once + (u.2.2 + 1) + u.2.1 / 1000003) * (fa + 7)) % 2147483629 = tw
    refine ru_retP (t := .int (((tw * 48271 + once) % 2147483587 / 64) % (low : Int)))
      (y_mod (y_intI (y_fdiv (y_mod (y_intI (y_add (y_mul (yv 4) y_int (.inr ⟨by decide, by decide⟩)) (yv 2)) E.b_int) y_int (by decide)) y_int ⟨by decide, by decide⟩) E.b_int) (yv 1) hlow) ⟨mod_nat h0, (u.1, u.2.1, u.2.2 + 1), _, ⟨ua, ub0, ub1, by show (0 : Int) ≤ u.2.2 + 1; omega, by show u.2.2 + 1 ≤ ((m + 1 : Nat) : Int); omega⟩, rfl⟩
def r_of (as : List A4) (need : Nat) (G : T → Prop) : Prop := ∃ ts : List T, ts ≠ [] ∧ ts.length ≤ 1000 ∧ (as = [.s ts] ∨ as = [.t (.tup ts)]) ∧ need = 1 ∧ G = fun t => t ∈ ts
theorem ok_of (E : E9 K mg) {k : Nat} (G1 : OkU P w base k E.f_l_take r_take) : OkU P w base (k + 1) E.f_l_of r_of := okU sc_l_of fun cdv A outer s H Ex as need G p u m hr hl h hu hm => by
  obtain ⟨ts, hne, hlen, has, rfl, rfl⟩ := h
  have hpos := List.length_pos_iff.mpr hne
  rcases has with rfl | rfl
  · exact ru_retE (G := fun t => t ∈ ts) (m := m + 1) (e_ixL 0 rfl (e_call1 (f := E.f_l_take) (z := .t (natT ts.length)) G1 hr (y_lenL (yl 1) E.b_len) ⟨ts.length, hpos, hlen, rfl, rfl, rfl⟩ hu hm)) fun u' t hu' g => ⟨g, u', _, hu', rfl⟩
  · exact ru_retE (G := fun t => t ∈ ts) (m := m + 1) (e_ixT (ts := ts) (P := fun _ => True) (j := 0) (px := ⟨0, 0, 0, 0⟩) (yv 1) (e_call1 (f := E.f_l_take) (z := .t (natT ts.length)) G1 hr (y_len (yv 1) E.b_len) ⟨ts.length, hpos, hlen, rfl, rfl, rfl⟩ hu hm)) fun u' t hu' g => ⟨g, u', _, hu', rfl⟩
theorem if01 (b : Bool) : (0 : Int) ≤ (if b = true then 1 else 0) ∧ (if b = true then (1 : Int) else 0) ≤ 1 := by cases b <;> decide
/-- a new urn -/
def boxU (x : Int) (k : Nat) : Uv := ((if x < 0 then -x else x) * (if decide ((1000000000000000000 : Int) ≤ if x < 0 then -x else x) = true then 1 else 0), x % 2305843009213693951 + 39373 * (k : Int) + 93999, 0)
theorem box_ok {x : Int} {k : Nat} (h : k ≤ 1000) : Urn 0 (boxU x k) := by
  have h1 := Int.emod_nonneg x (show (2305843009213693951 : Int) ≠ 0 by decide)
  have h2 := Int.emod_lt_of_pos x (show (0 : Int) < 2305843009213693951 by decide)
  refine ⟨Int.mul_nonneg (by split <;> omega) (if01 _).1, ?_, ?_, Int.le_refl _, Int.le_refl _⟩
  · show (0 : Int) ≤ x % 2305843009213693951 + 39373 * (k : Int) + 93999
    omega
  · show x % 2305843009213693951 + 39373 * (k : Int) + 93999 ≤ 4611686018427387904
    omega
def r_box (as : List A4) (r : A4) : Prop := ∃ (l : List Int) (k : Nat) (x : Int), k ≤ 1000 ∧ l[k]? = some x ∧ as = [.s (l.map T.int), .t (natT k)] ∧ r = .s [.int (boxU x k).1, .int (boxU x k).2.1, .int (boxU x k).2.2]
theorem ok_box (E : E9 K mg) {k : Nat} : Ok9 P w base (k + 1) E.f_l_box r_box := ok9 sc_l_box fun cdv A outer s H Ex as r hr hl h => by
  obtain ⟨l, k, x, hk, hx, rfl, rfl⟩ := h
  have hlt := (List.getElem?_eq_some_iff.mp hx).1
  refine ru_set 2 (y := .t (.int x)) sc_l_box.nd (y_if (k := true) (Pt.eq (t_lt (yv 1) (y_lenL (yl 0) E.b_len)) (by rw [List.length_map]; exact decide_eq_true (by omega))) (fun _ => y_ixL (yl 0) (yv 1) (atI_nat (by rw [List.getElem?_map, hx]; rfl))) (fun z => nomatch z)) ?_
  exact ru_ret (y_lst (b_cons (y_mul (y_abs (yv 2) E.b_abs) (y_intB (y_ge (y_abs (yv 2) E.b_abs) (Py.eq (y_pow y_int y_int ⟨by decide, by decide, by decide⟩) (congrArg T.int (by decide)))) E.b_int) (.inr ⟨Int.lt_of_lt_of_le (by decide) (if01 _).1, Int.lt_of_le_of_lt (if01 _).2 (by decide)⟩))
    (b_cons (y_add (y_add (y_mod (y_intI (yv 2) E.b_int) y_int (by decide)) (y_mul y_int (yv 1) (.inl ⟨by decide, by decide⟩))) y_int) (b_cons y_int b_nil)))) rfl
end
end Nine
set_option maxHeartbeats 1000000
/-! K9J4: a drawn ROW, walked. -/
namespace Nine
open PySem PySem.Spec PyProof.Rows L2
theorem se_T {l : List Expr} {k : Nat} {p : Pos} {es : List Expr} {env : Env} : starEach (.Tuple l k p :: es) env = (false, eval (.Tuple l k p) env) :: starEach es env := rfl
theorem se_L {l : List Expr} {p : Pos} {es : List Expr} {env : Env} : starEach (.List l p :: es) env = (false, eval (.List l p) env) :: starEach es env := rfl
theorem se_C {c : Const} {k : Nat} {p : Pos} {es : List Expr} {env : Env} : starEach (.Constant c k p :: es) env = (false, eval (.Constant c k p) env) :: starEach es env := rfl
theorem se_N {x : Str} {p : Pos} {es : List Expr} {env : Env} : starEach (.Name x p :: es) env = (false, eval (.Name x p) env) :: starEach es env := rfl
theorem se_F {f : Expr} {as : List Expr} {ks : List Keyword} {p : Pos} {es : List Expr} {env : Env} : starEach (.Call f as ks p :: es) env = (false, eval (.Call f as ks p) env) :: starEach es env := rfl
theorem se_B {a b : Expr} {o : Operator} {p : Pos} {es : List Expr} {env : Env} : starEach (.BinOp a o b p :: es) env = (false, eval (.BinOp a o b p) env) :: starEach es env := rfl
theorem se_S {a b : Expr} {p : Pos} {es : List Expr} {env : Env} : starEach (.Subscript a b p :: es) env = (false, eval (.Subscript a b p) env) :: starEach es env := rfl
theorem se_LC {a : Expr} {g : List Comprehension} {sc : Scope} {p : Pos} {es : List Expr} {env : Env} : starEach (.ListComp a g sc p :: es) env = (false, eval (.ListComp a g sc p) env) :: starEach es env := rfl
section
variable {X : Cx} {e : Expr} {es : List Expr} {ρ : List Sl}
theorem c_cons {t : T} {ts : List T} (h : Py X e ρ t) (hr : Pa X es ρ ts) (hs : starEach (e :: es) X.env = (false, eval e X.env) :: starEach es X.env := by with_reducible first | exact se_C | exact se_T | exact se_N | exact se_L | exact se_F | exact se_S | exact se_B | exact se_LC) : Pa X (e :: es) ρ (t :: ts) := b_cons h hr hs
end
theorem PaE.imp {X : Cx} {es : List Expr} {p : Addr} {u : Uv} {r : List Sl} {m : Nat} {G G' : List T → Prop} (h : PaE X es p u r m G) (k : ∀ ts, G ts → G' ts) : PaE X es p u r m G' :=
  fun pos pins s σ H C B I st => thn (h pos pins s σ H C B I st) fun w s' ⟨v, H', I', rv, u', uf, hu, ts, g, im⟩ => ⟨v, H', I', rv, u', uf, hu, ts, k ts g, im⟩
def abcS : List Str := ["a", "b", "c"]
def rdsL : List (List Str) := [["a"], ["b"], ["c"], ["a", "b"], ["c", "a"], ["b"], []]
def nmsL : List Str := ["mix", "fix", "copy"]
def wtsL : List (List Str) := [["a", "b", "c"], ["a"], ["b", "c"]]
def rdsT : List T := [.tup [.str "a"], .tup [.str "b"], .tup [.str "c"], .tup [.str "a", .str "b"], .tup [.str "c", .str "a"], .tup [.str "b"], .tup []]
theorem rds_mem {t : T} (h : t ∈ rdsT) : ∃ rd, rd ∈ rdsL ∧ t = .tup (rd.map T.str) := by
  unfold rdsT at h
  simp only [List.mem_cons, List.not_mem_nil, or_false] at h
  rcases h with rfl | rfl | rfl | rfl | rfl | rfl | rfl
  · exact ⟨["a"], by simp [rdsL], by simp⟩
  · exact ⟨["b"], by simp [rdsL], by simp⟩
  · exact ⟨["c"], by simp [rdsL], by simp⟩
  · exact ⟨["a", "b"], by simp [rdsL], by simp⟩
  · exact ⟨["c", "a"], by simp [rdsL], by simp⟩
  · exact ⟨["b"], by simp [rdsL], by simp⟩
  · exact ⟨[], by simp [rdsL], by simp⟩
def nmsT : List T := [.str "mix", .str "fix", .str "copy"]
theorem nms_mem {t : T} (h : t ∈ nmsT) : ∃ x, x ∈ nmsL ∧ t = .str x := by
  unfold nmsT at h
  simp only [List.mem_cons, List.not_mem_nil, or_false] at h
  rcases h with rfl | rfl | rfl
  · exact ⟨"mix", by simp [nmsL], rfl⟩
  · exact ⟨"fix", by simp [nmsL], rfl⟩
  · exact ⟨"copy", by simp [nmsL], rfl⟩
def wtsT : List T := [.tup (abcS.map T.str), .tup [.str "a"], .tup [.str "b", .str "c"]]
theorem wts_mem {t : T} (h : t ∈ wtsT) : ∃ x, x ∈ wtsL ∧ t = .tup (x.map T.str) := by
  unfold wtsT at h
  simp only [List.mem_cons, List.not_mem_nil, or_false] at h
  rcases h with rfl | rfl | rfl
  · exact ⟨abcS, by simp [wtsL, abcS], rfl⟩
  · exact ⟨["a"], by simp [wtsL], by simp⟩
  · exact ⟨["b", "c"], by simp [wtsL], by simp⟩
structure MvP (m : Mv) : Prop where
  rd : m.rd ∈ rdsL
  gl : m.gl ∈ abcS
  nm : m.nm ∈ nmsL
  cp : m.nm = "copy" → m.rd.length = 1
theorem rds_ok : ∀ rd ∈ rdsL, (∀ c ∈ rd, c ∈ abcS) ∧ rd.Nodup ∧ rd.length ≤ 2 := by decide +kernel
theorem nms_ok : ∀ x ∈ nmsL, PyData.strOk x = true := by decide +kernel
theorem wts_ok : ∀ x ∈ wtsL, x = abcS.filter fun c => decide (c ∈ x) := by decide +kernel
theorem abc_ok : abcS.Nodup ∧ (∀ c ∈ abcS, PyData.strOk c = true) ∧ abcS.length ≤ 6 := by decide +kernel
theorem row_ok {wt : List Str} {ms : List Mv} {l : List Nat} (hw : wt ∈ wtsL) (h0 : 0 < ms.length) (h4 : ms.length ≤ 4) (hm : ∀ m ∈ ms, MvP m) (hl : l.Sublist (List.range' 1 (ms.length - 1))) : (Rw.mk abcS wt ms l).Ok where
  nd := abc_ok.1
  ck := abc_ok.2.1
  lc := abc_ok.2.2
  wc := wts_ok wt hw
  mv := fun m h => by
    have q := hm m h
    obtain ⟨a, b, c⟩ := rds_ok _ q.rd
    exact ⟨a, b, q.gl, q.cp, c, nms_ok _ q.nm⟩
  pos := h0
  lm := h4
  asc := List.Pairwise.sublist hl List.pairwise_lt_range'
  mb := fun n h => by
    have := List.mem_range'_1.mp (hl.subset h)
    show 0 < n ∧ n < ms.length
    omega
def r_row (as : List A4) (need : Nat) (G : T → Prop) : Prop := as = [] ∧ need = 18 ∧ G = fun t => ∃ rw : Rw, rw.Ok ∧ t = rw.tf
section
variable {P : Program} {w : World} {K : PySem.W.Frag} {mg : Str → Option Value} {base : Heap}
theorem ok_row (E : E9 K mg) {k : Nat} (G1 : OkU P w base k E.f_l_take r_take) (G2 : OkU P w base k E.f_l_of r_of) : OkU P w base (k + 1) E.f_l_row r_row := okU sc_l_row fun cdv A outer s H Ex as need G p u m hr hl h hu hm => by
  obtain ⟨rfl, rfl, rfl⟩ := h
  have hm' : m + 18 ≤ 1073741824 := hm
  -- urn 0, lap 1, marks 2, cells 3, moves 4, reads 5, name 6, k 7
  refine ru_par 3 4 (u := .t (.tuf abcS)) (w := .s []) rfl sc_l_row.nd (by decide) (y_tupF (l := abcS) (c_cons y_str (c_cons y_str (c_cons y_str b_nil)))) (y_lst b_nil) ?_
  refine ru_forE (GL := fun ts => ∃ n, (1 ≤ n ∧ n ≤ 4) ∧ ts = (List.range n).map natT) (m := m + 1) rfl (i_rngE (P := fun n => 1 ≤ n ∧ n ≤ 4) (PyE.impT (e_add (i := 1) (P := fun n => n < 4) y_int (e_call1 (f := E.f_l_take) (z := .t (natT 4)) G1 hr y_int ⟨4, by decide, by decide, rfl, rfl, rfl⟩ hu (by omega))) (fun t ⟨n, h1, h2⟩ => ⟨1 + n, ⟨by omega, by omega⟩, h2⟩) (Nat.le_refl _)) (fun n h => by omega) E.b_range)
    (fun ts i ρ => ∃ (u' : Uv) (ms : List Mv), Urn (m + 1 + 3 * i) u' ∧ ms.length = i ∧ (∀ q ∈ ms, MvP q) ∧ ρ = [.urn p u', .no, .no, .val (.tuf abcS), .own (ms.map Mv.t), .no, .no, .no]) (fun u' ts hu' _ => ⟨u', [], hu', rfl, (fun q hq => nomatch hq), rfl⟩) (fun ts i t ρ hg ht hp => ?_) fun ts ρ hg hp => ?_
  · obtain ⟨n, ⟨hn1, hn4⟩, rfl⟩ := hg
    obtain ⟨u1, ms, hu1, hlen, hms, rfl⟩ := hp
    have hi : i < n := by
      have := (List.getElem?_eq_some_iff.mp ht).1
      rw [List.length_map, List.length_range] at this
      exact this
    refine ⟨_, _, g_name 1 sc_l_row.nd, ?_⟩
    -- reads
    refine ru_setE 4 (m := m + 1 + 3 * i + 1) (G := fun t => t ∈ rdsT) sc_l_row.nd (e_call1 (f := E.f_l_of) (z := .s rdsT) G2 hr
      ?qq
      ⟨rdsT, by simp [rdsT], by simp [rdsT], .inl rfl, rfl, rfl⟩ hu1 (by omega) (h1 := se_N) (h2 := se_L) (hpl := by rw [se_L]; rfl)) fun u2 t2 hu2 g2 => ?_
    case qq =>
      unfold rdsT
      repeat' first
        | with_reducible exact b_nil
        | with_reducible exact y_str
        | with_reducible refine y_lst ?_ ?_
        | with_reducible refine y_tup ?_ ?_
        | with_reducible refine b_cons ?_ ?_ ?_
        | with_reducible exact se_T
        | with_reducible exact se_C
        | decide
    obtain ⟨rd, hrd, rfl⟩ := rds_mem g2
    -- name
    refine ru_setE 5 (m := m + 1 + 3 * i + 1 + 1) (G := fun t => t ∈ nmsT) sc_l_row.nd (e_call1 (f := E.f_l_of) (z := .s nmsT) G2 hr ?qn
      ⟨nmsT, by simp [nmsT], by simp [nmsT], .inl rfl, rfl, rfl⟩ hu2 (by omega) (h1 := se_N) (h2 := se_L) (hpl := by rw [se_L]; rfl)) fun u3 t3 hu3 g3 => ?_
    case qn =>
      unfold nmsT
      repeat' first
        | with_reducible exact b_nil
        | with_reducible exact y_str
        | with_reducible refine y_lst ?_ ?_
        | with_reducible refine y_tup ?_ ?_
        | with_reducible refine b_cons ?_ ?_ ?_
        | with_reducible exact se_T
        | with_reducible exact se_C
        | decide
    obtain ⟨nm, hnm, rfl⟩ := nms_mem g3
    have hln : (rd.map T.str).length = rd.length := List.length_map ..
    refine ru_set 6 (y := .t (.str (if (!decide (rd.length = 1) && decide (nm = "copy")) = true then "fix" else nm))) sc_l_row.nd
      (y_if (k := !decide (rd.length = 1) && decide (nm = "copy")) (t_and (t_neN (x := rd.length) (y := 1) (Py.eq (y_len (yv 5) E.b_len) (by rw [hln]; rfl)) y_int) fun _ => t_eqS (yv 6) y_str) (fun hk => Py.eq y_str (by rw [if_pos hk])) fun hk => Py.eq (yv 6) (by rw [if_neg (by rw [hk]; exact Bool.false_ne_true)])) ?_
    generalize hnm' : (if (!decide (rd.length = 1) && decide (nm = "copy")) = true then ("fix" : Str) else nm) = nm'
    have nmP : nm' ∈ nmsL ∧ (nm' = "copy" → rd.length = 1) := by
      rw [← hnm']
      by_cases h1 : rd.length = 1
      · rw [if_neg (by simp [h1])]
        exact ⟨hnm, fun _ => h1⟩
      · by_cases h2 : nm = "copy"
        · rw [if_pos (by simp [h1, h2])]
          exact ⟨by simp [nmsL], fun z => absurd z (by decide +kernel)⟩
        · rw [if_neg (by simp [h2])]
          exact ⟨hnm, fun z => absurd z h2⟩
    refine ru_appendE 3 (ts := ms.map Mv.t) (m := m + 1 + 3 * i + 1 + 1 + 1) (G := fun t => ∃ gl, gl ∈ abcS ∧ t = Mv.t ⟨nm', rd, gl⟩) rfl ?qa (fun u4 t4 hu4 g4 => ?_) (by rw [List.length_map]; omega)
    case qa =>
      refine PyE.impT (m := m + 1 + 3 * i + 1 + 1 + 1) (e_tup (GL := fun ts => ∃ gl, gl ∈ abcS ∧ ts = [.str nm', .tup (rd.map T.str), .str gl]) ?_ (fun ts ⟨gl, _, e⟩ => by rw [e]; simp)) (fun t ⟨ts, ⟨gl, h, e⟩, et⟩ => ⟨gl, h, by rw [et, e]; rfl⟩) (Nat.le_refl _)
      refine PaE.imp (ea_P (t := .str nm') (yv 6) (ea_P (t := .tup (rd.map T.str)) (yv 5) (ea_E (ts := []) (G := fun t => t ∈ abcS.map T.str) (e_call1 (f := E.f_l_of) (z := .t (.tup (abcS.map T.str))) G2 hr (Py.low (yv 3)) ⟨_, by simp [abcS], by simp [abcS], .inr rfl, rfl, rfl⟩ hu3 (by omega)) fun u' hu' => b_nil))) ?_
      rintro ts ⟨ts1, ⟨ts2, ⟨t4, h4, e3⟩, e2⟩, e1⟩
      obtain ⟨gl, hgl, e4⟩ := List.mem_map.mp h4
      exact ⟨gl, hgl, by rw [e1, e2, e3, ← e4]⟩
    obtain ⟨gl, hgl, rfl⟩ := g4
    refine ru_forget 1 (ru_forget 5 (ru_forget 6 (ru_end ⟨u4, ms ++ [⟨nm', rd, gl⟩], hu4.mono (by omega), by rw [List.length_append, hlen]; rfl, fun q hq => ?_, ?_⟩)))
    · rcases List.mem_append.mp hq with z | z
      · exact hms q z
      · rw [List.mem_singleton.mp z]
        exact ⟨hrd, hgl, nmP.1, nmP.2⟩
    · rw [List.map_append]
      rfl
  · obtain ⟨n, ⟨hn1, hn4⟩, rfl⟩ := hg
    obtain ⟨u1, ms, hu1, hlen, hms, rfl⟩ := hp
    rw [List.length_map, List.length_range] at hu1 hlen
    -- marks
    refine ru_setE 1 (m := m + 1 + 3 * n + 4) (G := fun t => ∃ l : List Nat, l.Sublist (List.range' 1 (ms.length - 1)) ∧ t = .tup (l.map natT)) sc_l_row.nd (PyE.impT (m := m + 1 + 3 * n + 4 * 1) (e_tupleL (e_lc (own := [("_law_k", 7)]) (m0 := m + 1 + 3 * n) (c := 1) (r := [.no, .no, .val (.tuf abcS), .own (ms.map Mv.t), .no, .no, .no]) 4 (G := fun ts => ts = (List.range' 1 (ms.length - 1)).map natT)
      (fun ts i acc => ∃ l : List Nat, acc = l.map natT ∧ l.Sublist ((List.range' 1 (ms.length - 1)).take i)) [7] rfl sc_l_row.nd (PiI.toE (i_rngN (x := 1) (y := ms.length) y_int (Py.eq (y_lenL (yl 4) E.b_len) (by rw [List.length_map]; rfl)) (by omega) (by omega) E.b_range) hu1) (blkOk_by (N := n_l_row) (sc := defScope s_l_row) (by decide +kernel)) (by decide)
      (fun ts e => by rw [e, List.length_map, List.length_range']; omega) (fun ts _ => ⟨[], rfl, List.nil_sublist _⟩) fun ts i t u2 e ht hu2 => ?q) E.b_tuple) ?q2 (Nat.le_refl _)) fun u2 t2 hu2 g2 => ?_
    case q =>
      subst e
      rw [List.getElem?_map] at ht
      cases hx : (List.range' 1 (ms.length - 1))[i]? with
      | none => rw [hx] at ht; cases ht
      | some x =>
        rw [hx] at ht
        cases ht
        have hil : i < 4 := by
          have := (List.getElem?_eq_some_iff.mp hx).1
          rw [List.length_range'] at this
          omega
        refine ⟨[.no, .no, .val (.tuf abcS), .own (ms.map Mv.t), .no, .no, .val (natT x)], fun u3 _ => Urn (m + 1 + 3 * n + (i + 1) * 1) u3, fun s H C cl fp => ⟨g_name 7 sc_l_row.nd, tse_one ?_, fun u3 hu3 => PyE.impT (Py.toE (yv 7) hu3) (fun v ev acc ⟨l, e1, e2⟩ => ⟨l ++ [x], by rw [e1, ev, List.map_append]; rfl, ?_⟩) (Nat.le_refl _)⟩, fun u3 hu3 => ⟨hu3, fun acc ⟨l, e1, e2⟩ => ⟨l, e1, e2.trans (List.take_sublist_take_left (by omega))⟩⟩⟩
        · exact te_eq0 (m := m + 1 + 3 * n + i * 1 + 1) (R := fun _ => True) (PyE.impT (e_call1 (f := E.f_l_take) (z := .t (natT 2)) G1 hr y_int ⟨2, by decide, by decide, rfl, rfl, rfl⟩ hu2 (by omega)) (fun t ⟨n, _, e⟩ => ⟨n, e⟩) (Nat.le_refl _)) fun u' hu' => y_int
        · rw [take_snoc hx]
          exact e2.append (List.Sublist.refl _)
    case q2 =>
      rintro t ⟨ts, ⟨ts', e, l, e1, e2⟩, e0⟩
      subst e
      rw [List.length_map] at e2
      rw [List.take_length] at e2
      exact ⟨l, e2, by rw [e0, e1]⟩
    obtain ⟨l, hsub, rfl⟩ := g2
    refine ru_retE (m := m + 18) (G := fun t => ∃ wt, wt ∈ wtsL ∧ t = Rw.tf ⟨abcS, wt, ms, l⟩) ?qr fun u' t hu' ⟨wt, hwt, et⟩ => ⟨⟨_, row_ok hwt (by omega) (by omega) hms hsub, et⟩, u', _, hu', rfl⟩
    refine PyE.impT (m := m + 1 + 3 * n + 4 + 1) (e_tup (GL := fun ts => ∃ wt, wt ∈ wtsL ∧ ts = [.tuf abcS, .tup (wt.map T.str), .tup (ms.map Mv.t), .tup (l.map natT)]) ?_ (fun ts ⟨gl, _, e⟩ => by rw [e]; simp)) (fun t ⟨ts, ⟨wt, h, e⟩, et⟩ => ⟨wt, h, by rw [et, e]; rfl⟩) (by omega)
    refine PaE.imp (ea_P (t := .tuf abcS) (yv 3) (ea_E (ts := [.tup (ms.map Mv.t), .tup (l.map natT)]) (G := fun t => t ∈ wtsT) (e_call1 (f := E.f_l_of) (z := .s wtsT) G2 hr ?qw ⟨wtsT, by simp [wtsT], by simp [wtsT], .inl rfl, rfl, rfl⟩ hu2 (by omega) (h1 := se_N) (h2 := se_L) (hpl := by rw [se_L]; rfl)) fun u' hu' => b_cons (y_tupleL (yl 4) E.b_tuple) (b_cons (yv 2) b_nil))) ?_
    rotate_left
    · rintro ts ⟨ts1, ⟨t1, h1, e2⟩, e1⟩
      obtain ⟨wt, hwt, e3⟩ := wts_mem h1
      exact ⟨wt, hwt, by rw [e1, e2, e3]⟩
    case qw =>
      unfold wtsT
      refine y_lst (b_cons (Py.low (yv 3)) ?_ se_N) (by decide)
      repeat' first
        | with_reducible exact b_nil
        | with_reducible exact y_str
        | with_reducible refine y_lst ?_ ?_
        | with_reducible refine y_tup ?_ ?_
        | with_reducible refine b_cons ?_ ?_ ?_
        | with_reducible exact se_T
        | with_reducible exact se_C
        | decide
end
end Nine
set_option maxHeartbeats 1000000
/-! K9J5: a drawn FLEET, walked. -/
namespace Nine
open PySem PySem.Spec PyProof.Rows L2
section
variable {X : Cx} {e : Expr} {r : List Sl} {pos p9 p8 pos2 p' : Pos} {p : Addr} {u : Uv} {m : Nat} {rest : List Stmt} {D : De}
/-- sorted(set(e)) of numbers, e a new list that changes the urn -/
theorem e_ssetN (hc : X.calm = true) (hu9 : X.A.units + 64 < cLine) {Pl : List Nat → Prop} (h : PyEl X e p u r m fun ts => ∃ l : List Nat, Pl l ∧ ts = l.map natT) (h64 : ∀ l, Pl l → l.length < 64) (hm : X.mg "sorted" = none) (hm2 : X.mg "set" = none) (hg : Gl X "sorted" := by rfl) (hg2 : Gl X "set" := by rfl)
    (he : starEach [e] X.env = (false, eval e X.env) :: starEach [] X.env := by rfl) (hpl : (backTo pos2 (starEach [] X.env)).any (·.1) = false := by rfl)
    (he2 : starEach [.Call (.Name "set" p8) [e] [] pos2] X.env = (false, eval (.Call (.Name "set" p8) [e] [] pos2) X.env) :: starEach [] X.env := by rfl) (hpl2 : (backTo pos (starEach [] X.env)).any (·.1) = false := by rfl) :
    PyEl X (.Call (.Name "sorted" p9) [.Call (.Name "set" p8) [e] [] pos2] [] pos) p u r m fun ts => ∃ l : List Nat, Pl l ∧ ts = (ordU ltN l).map natT := by
  have cs : CallR X (.type "set") (fun vs H Q => ∃ l : List Nat, l.length < 64 ∧ rSet X natT l vs H Q) := fun pins s σ H vs us Q I r ⟨l, few, h⟩ => cr_set9 (natMem X.prog X.w) nat_in hc hu9 few pins s σ H vs us Q I r h
  have ct : CallR X (.builtin "sorted") (fun vs H Q => ∃ l : List Nat, rSrtV X ltN natT l vs H Q) := fun pins s σ H vs us Q I r ⟨l, h⟩ => cr_srtV lin_nat ltD_nat hc hu9 (fun a b => by simp [natT, T.d, W.alike]) (fun l => .others fun b => ⟨by simp [natT, T.d], fun xs => by simp [natT, T.d]⟩) (fun a => by simp [natT, T.d, PyData.depth]) pins s σ H vs us Q I r h
  have S : PyE X (.Call (.Name "set" p8) [e] [] pos2) p u r fun u' H v H' => Urn m u' ∧ ∃ l : List Nat, Pl l ∧ ∃ (q : Addr) (vals : List Value) (ys : List V) (ks : List Nat), v = .ref q ∧ H' q = some (svO X.w q vals) ∧ Vals ys vals ∧ ImAll X.K H' ys (ks.map natT) ∧ ks.Nodup ∧ ∀ k, k ∈ ks ↔ k ∈ l :=
    PyE.of (pe_callTy cs hg2 hm2 (by decide +kernel) (pa_cons pe_e pa_nil he) (by decide) (by decide) he hpl) fun σ H C B st => e_use h st fun v H1 u' uf ⟨hu, ts, ⟨l, few, e1⟩, q, xs, ev, n, hl, im⟩ _ => by
      subst e1; subst ev
      exact ⟨l, h64 l few, q, xs, rfl, SqL.of hl, im, fun q2 vals ys ks hq r my nd hk => ⟨u', uf.post (same_new hq), hu, l, few, q2, vals, ys, ks, rfl, upd_same, r, my.mono (same_new hq), nd, hk⟩⟩
  refine PyE.of (pe_callB ct hg hm (by decide +kernel) (pa_cons pe_e pa_nil he2) (by decide) (by decide) he2 hpl2) fun σ H C B st => e_use S st fun v H1 u' uf ⟨hu, l, few, q, vals, ys, ks, ev, hp, r, my, nd, hk⟩ _ => ?_
  subst ev
  exact ⟨l, q, vals, ys, ks, rfl, hp, r, my, nd, hk, fun p2 ys2 hn2 my2 => ⟨u', uf.post (same_new hn2), hu, _, ⟨l, few, rfl⟩, p2, ys2, rfl, uf.free hn2, upd_same, my2.mono (same_new hn2)⟩⟩
/-- x = e, a new list -/
theorem ru_setEL (i : Nat) {x : Str} {G : List T → Prop} (hN : X.N.Nodup) (he : PyEl X e p u r m G) (k : ∀ u' ts, Urn m u' → G ts → Ru X rest (.urn p u' :: r.set i (.own ts)) D) (hi : X.N[i + 1]? = some x := by rfl) (hx : Loc X.env.scope x := by first | exact Or.inl rfl | exact Or.inr rfl)
    (hf : X.fn x = true ∨ X.env.scope.names.lookup x = some .local := by first | exact .inl rfl | exact .inr rfl) (hs : swapsWith e (some (.Name x p')) pos.line X.env = pure false := by rfl) : Ru X (.Assign [.Name x p'] e pos :: rest) (.urn p u :: r) D :=
  Ru.of (pss_cons (ps_set hN hi hx pe_e hs hf) pss_ru) fun σ H C B st => e_use he st fun v H1 u' uf ⟨hu, ts, g, im⟩ _ => by
    refine ru_use (k u' ts hu g) (StR.put (i := i + 1) (x := .s ts) (uf.st st) (NewOk.down st.base im) fun mi pp ev z => ?_)
    obtain ⟨q, xs, e1, n, _⟩ := im
    rw [ev] at e1
    cases e1
    exact (st.own_none (own_urn.mp z)).2.2.2 n
end
def annL : List Str := ["ann", "bob", "cy", "dan"]
def clsT : List T := [.str "mid", .str "new", .str "old"]
def oneT : List T := [natT 1, natT 1, natT 2, natT 3]
def cls3 : List Str := ["mid", "new", "old"]
theorem cls_mem {t : T} (h : t ∈ clsT) : ∃ x, x ∈ cls3 ∧ t = .str x := by
  unfold clsT at h
  simp only [List.mem_cons, List.not_mem_nil, or_false] at h
  rcases h with rfl | rfl | rfl
  · exact ⟨"mid", by simp [cls3], rfl⟩
  · exact ⟨"new", by simp [cls3], rfl⟩
  · exact ⟨"old", by simp [cls3], rfl⟩
/-- a drawn device -/
structure DevP (d : Dev) : Prop where
  cls : d.cls ∈ cls3
  tr : ∃ l : List Nat, d.tries = ordU ltN l ∧ l ≠ [] ∧ l.length ≤ 3 ∧ ∀ x ∈ l, x < 7
structure FlP (fl : Fl) : Prop where
  nm : ∃ n, 1 ≤ n ∧ n ≤ 4 ∧ fl.map Dev.nm = annL.take n
  dev : ∀ d ∈ fl, DevP d
theorem FlP.len {fl : Fl} (h : FlP fl) : 1 ≤ fl.length ∧ fl.length ≤ 4 := by
  obtain ⟨n, h1, h4, e⟩ := h.nm
  have := congrArg List.length e
  rw [List.length_map, List.length_take] at this
  have : annL.length = 4 := rfl
  omega
def r_fleet (as : List A4) (need : Nat) (G : T → Prop) : Prop := as = [.t (natT 4)] ∧ need = 21 ∧ G = fun t => ∃ fl : Fl, FlP fl ∧ t = flT fl
section
variable {P : Program} {w : World} {K : PySem.W.Frag} {mg : Str → Option Value} {base : Heap}
theorem ok_fleet (E : E9 K mg) {k : Nat} (G1 : OkU P w base k E.f_l_take r_take) (G2 : OkU P w base k E.f_l_of r_of) : OkU P w base (k + 1) E.f_l_fleet r_fleet := okU sc_l_fleet fun cdv A outer s H Ex as need G p u m hr hl h hu hm => by
  obtain ⟨rfl, rfl, rfl⟩ := h
  have hm' : m + 21 ≤ 1073741824 := hm
  have qc : ∀ n : Nat, 1 ≤ n ∧ n ≤ 4 → cutT (annL.map T.str) none (some (n : Int)) = (annL.take n).map T.str := by
    intro n hn
    have : cutT (annL.map T.str) none (some (n : Int)) = (annL.map T.str).take n := by
      have hn2 : n = 1 ∨ n = 2 ∨ n = 3 ∨ n = 4 := by omega
      rcases hn2 with rfl | rfl | rfl | rfl <;> rfl
    rw [this, List.map_take]
  -- urn 0, most 1, found 2, tag 3, tries 4, lap 5
  refine ru_set 2 (y := .s []) sc_l_fleet.nd (y_lst b_nil) ?_
  refine ru_forE (GL := fun ts => ∃ n, (1 ≤ n ∧ n ≤ 4) ∧ ts = (annL.take n).map T.str) (m := m + 1) rfl (i_tupE (PyE.impT (m := m + 1) (e_sl (ts := annL.map T.str) (P := fun n => 1 ≤ n ∧ n ≤ 4) ?qs (PyE.impT (m := m + 1) (e_add (i := 1) (P := fun n => n < 4) y_int (e_call1 (f := E.f_l_take) (z := .t (natT 4)) G1 hr (yv 1) ⟨4, by decide, by decide, rfl, rfl, rfl⟩ hu (by omega))) (fun t ⟨n, h1, h2⟩ => ⟨1 + n, ⟨by omega, by omega⟩, h2⟩) (Nat.le_refl _)))
      (fun t ⟨n, hn, e⟩ => ⟨_, ⟨n, hn, rfl⟩, by rw [e]; exact congrArg T.tup (qc n hn)⟩) (Nat.le_refl _)))
    (fun ts i ρ => ∃ (u' : Uv) (fl : Fl), Urn (m + 1 + 5 * i) u' ∧ fl.length = i ∧ fl.map (fun d => T.str d.nm) = ts.take i ∧ (∀ d ∈ fl, DevP d) ∧ ρ = [.urn p u', .val (natT 4), .own (fl.map Dev.t), .no, .no, .no]) (fun u' ts hu' _ => ⟨u', [], hu', rfl, rfl, (fun q hq => nomatch hq), rfl⟩) (fun ts i t ρ hg ht hp => ?_) fun ts ρ hg hp => ?_
  case qs =>
    refine y_tup ?_ (by decide)
    show Pa _ _ _ [.str "ann", .str "bob", .str "cy", .str "dan"]
    exact b_cons y_str (b_cons y_str (b_cons y_str (b_cons y_str b_nil)))
  · obtain ⟨n, ⟨hn1, hn4⟩, rfl⟩ := hg
    obtain ⟨u1, fl, hu1, hlen, hnm, hdev, rfl⟩ := hp
    have hal : annL.length = 4 := rfl
    have hi : i < n := by
      have := (List.getElem?_eq_some_iff.mp ht).1
      rw [List.length_map, List.length_take] at this
      omega
    have ht' := ht
    rw [List.getElem?_map] at ht
    cases hx : (annL.take n)[i]? with
    | none => rw [hx] at ht; cases ht
    | some tag =>
      rw [hx] at ht
      cases ht
      refine ⟨_, _, g_name 3 sc_l_fleet.nd, ?_⟩
      -- tries
      refine ru_setEL 3 (m := m + 1 + 5 * i + 4) (G := fun ts => ∃ l : List Nat, (l ≠ [] ∧ l.length ≤ 3 ∧ ∀ x ∈ l, x < 7) ∧ ts = (ordU ltN l).map natT) sc_l_fleet.nd ?qt fun u2 ts2 hu2 g2 => ?_
      case qt =>
        have one : ∀ t, t ∈ oneT → ∃ n, (1 ≤ n ∧ n ≤ 3) ∧ t = natT n := fun t h => by
          unfold oneT at h
          simp only [List.mem_cons, List.not_mem_nil, or_false] at h
          rcases h with rfl | rfl | rfl | rfl
          · exact ⟨1, ⟨by decide, by decide⟩, rfl⟩
          · exact ⟨1, ⟨by decide, by decide⟩, rfl⟩
          · exact ⟨2, ⟨by decide, by decide⟩, rfl⟩
          · exact ⟨3, ⟨by decide, by decide⟩, rfl⟩
        refine e_ssetN (Pl := fun l => l ≠ [] ∧ l.length ≤ 3 ∧ ∀ x ∈ l, x < 7) rfl hr.units (PyE.impL (m := m + 1 + 5 * i + 1 + 3 * 1) (e_lc (own := [("_law_lap", 5)]) (m0 := m + 1 + 5 * i + 1) (c := 1) 3 (G := fun ts => ∃ n, (1 ≤ n ∧ n ≤ 3) ∧ ts = (List.range n).map natT)
          (fun ts i acc => ∃ l : List Nat, acc = l.map natT ∧ l.length = i ∧ ∀ x ∈ l, x < 7) [5] rfl sc_l_fleet.nd (i_rngE (P := fun n => 1 ≤ n ∧ n ≤ 3) (PyE.impT (m := m + 1 + 5 * i + 1) (e_call1 (f := E.f_l_of) (z := .s oneT) G2 hr ?qo ⟨oneT, by simp [oneT], by simp [oneT], .inl rfl, rfl, rfl⟩ hu1 (by omega) (h1 := se_N) (h2 := se_L) (hpl := by rw [se_L]; rfl)) one (Nat.le_refl _)) (fun n h => by omega) E.b_range)
          (blkOk_by (N := n_l_fleet) (sc := defScope s_l_fleet) (by decide +kernel)) (by decide) (fun ts ⟨n, hn, e⟩ => by rw [e, List.length_map, List.length_range]; omega) (fun ts _ => ⟨[], rfl, rfl, fun x hx => nomatch hx⟩) fun ts j t u3 hg hx hu3 => ?qe) ?qf (by omega)) (fun l h => by omega) E.b_sorted E.b_set
        case qo => exact y_lst (b_cons y_int (b_cons y_int (b_cons y_int (b_cons y_int b_nil))))
        case qe =>
          have hj : j < 3 := by
            obtain ⟨n, hn, rfl⟩ := hg
            have := (List.getElem?_eq_some_iff.mp hx).1
            rw [List.length_map, List.length_range] at this
            omega
          refine ⟨_, fun u4 b => u4 = u3 ∧ b = true, fun s H C cl fp => ⟨g_name 5 sc_l_fleet.nd, tse_nil ⟨rfl, rfl⟩, fun u4 z => ?_⟩, fun u4 z => nomatch z.2⟩
          rw [z.1]
          exact PyE.impT (m := m + 1 + 5 * i + 1 + j * 1 + 1) (e_call1 (f := E.f_l_take) (z := .t (natT 7)) G1 hr y_int ⟨7, by decide, by decide, rfl, rfl, rfl⟩ hu3 (by omega)) (fun t ⟨n, hn, e⟩ acc ⟨l, e1, e2, e3⟩ => ⟨l ++ [n], by rw [e1, e, List.map_append]; rfl, by rw [List.length_append, e2]; rfl, fun x hx => (List.mem_append.mp hx).elim (e3 x) fun hx => by rw [List.mem_singleton.mp hx]; exact hn⟩) (by omega)
        case qf =>
          rintro acc ⟨ts, ⟨n, hn, rfl⟩, l, e1, e2, e3⟩
          rw [List.length_map, List.length_range] at e2
          exact ⟨l, ⟨fun z => by rw [z] at e2; simp at e2; omega, by omega, e3⟩, e1⟩
      obtain ⟨l, hl', rfl⟩ := g2
      refine ru_appendE 1 (ts := fl.map Dev.t) (m := m + 1 + 5 * i + 4 + 1) (G := fun t => ∃ c, c ∈ cls3 ∧ t = Dev.t ⟨tag, c, ordU ltN l⟩) rfl ?qa (fun u4 t4 hu4 g4 => ?_) (by rw [List.length_map]; omega)
      case qa =>
        refine PyE.impT (m := m + 1 + 5 * i + 4 + 1) (e_tup (GL := fun ts => ∃ c, c ∈ cls3 ∧ ts = [.str tag, .str c, .tup ((ordU ltN l).map natT)]) ?_ (fun ts ⟨gl, _, e⟩ => by rw [e]; simp)) (fun t ⟨ts, ⟨c, h, e⟩, et⟩ => ⟨c, h, by rw [et, e]; rfl⟩) (Nat.le_refl _)
        refine PaE.imp (ea_P (t := .str tag) (yv 3) (ea_E (ts := [.tup ((ordU ltN l).map natT)]) (G := fun t => t ∈ clsT) (e_call1 (f := E.f_l_of) (z := .s clsT) G2 hr ?qw ⟨clsT, by simp [clsT], by simp [clsT], .inl rfl, rfl, rfl⟩ hu2 (by omega) (h1 := se_N) (h2 := se_L) (hpl := by rw [se_L]; rfl)) fun u' hu' => b_cons (y_tupleL (yl 4) E.b_tuple) b_nil)) ?_
        · exact y_lst (b_cons y_str (b_cons y_str (b_cons y_str b_nil)))
        · rintro ts ⟨ts1, ⟨t1, h1, e2⟩, e1⟩
          obtain ⟨c, hc, e3⟩ := cls_mem h1
          exact ⟨c, hc, by rw [e1, e2, e3]⟩
      obtain ⟨c, hc, rfl⟩ := g4
      refine ru_forget 3 (ru_forget 4 (ru_end ⟨u4, fl ++ [⟨tag, c, ordU ltN l⟩], hu4.mono (by omega), by rw [List.length_append, hlen]; rfl, ?_, fun q hq => ?_, ?_⟩))
      · rw [List.map_append, hnm, take_snoc ht']
        rfl
      · rcases List.mem_append.mp hq with z | z
        · exact hdev q z
        · rw [List.mem_singleton.mp z]
          exact ⟨hc, l, rfl, hl'⟩
      · rw [List.map_append]
        rfl
  · obtain ⟨n, ⟨hn1, hn4⟩, rfl⟩ := hg
    obtain ⟨u1, fl, hu1, hlen, hnm, hdev, rfl⟩ := hp
    have hal : annL.length = 4 := rfl
    rw [List.length_map, List.length_take] at hu1 hlen
    refine ru_retP (t := flT fl) (y_tupleL (yl 2) E.b_tuple) ⟨⟨fl, ⟨⟨n, hn1, hn4, ?_⟩, hdev⟩, rfl⟩, u1, _, hu1.mono (by omega), rfl⟩
    rw [List.take_length] at hnm
    have inj : ∀ (a b : List Str), a.map T.str = b.map T.str → a = b := fun a => by
      induction a with
      | nil => intro b e; cases b with | nil => rfl | cons y b => cases e
      | cons x a ih =>
        intro b e
        cases b with
        | nil => cases e
        | cons y b =>
          rw [List.map_cons, List.map_cons] at e
          injection e with e1 e2
          injection e1 with e1
          rw [e1, ih b e2]
    refine inj _ _ ?_
    rw [List.map_map]
    exact hnm
end
end Nine
set_option maxHeartbeats 1000000
/-! K9J6: the law on a drawn FLEET, walked. -/
namespace Nine
open PySem PySem.Spec PyProof.Rows L2
section
variable {α : Type} {lt : α → α → Bool}
theorem len_ordU : ∀ l : List α, (ordU lt l).length ≤ l.length
  | [] => Nat.le_refl _
  | y :: l => by
    have ins : ∀ m : List α, (insU lt y m).length ≤ m.length + 1 := by
      intro m
      induction m with
      | nil => simp [insU]
      | cons z m ihm =>
        unfold insU
        split
        · simp
        · split
          · rw [List.length_cons, List.length_cons]; omega
          · simp
    show (insU lt y (ordU lt l)).length ≤ _
    have := ins (ordU lt l)
    have := len_ordU l
    rw [List.length_cons]
    omega
end
theorem FlP.ok {fl : Fl} (h : FlP fl) : FlOk fl where
  few := by have := h.len; omega
  tr := fun d hd => by
    obtain ⟨l, e, hne, h3, _⟩ := (h.dev d hd).tr
    rw [e]
    refine ⟨fun z => ?_, Nat.le_trans (len_ordU l) (by omega)⟩
    cases l with
    | nil => exact hne rfl
    | cons x l =>
      have : x ∈ ordU ltN (x :: l) := (mem_ordU lin_nat).mpr List.mem_cons_self
      rw [z] at this
      cases this
theorem late_mem2 {d : Dev} : ∀ (l : List (List Nat)) (late : List (List Nat)) (r : List Nat), r ∈ l.foldl (fun late row => late ++ d.tries.map fun n => row ++ [n]) late ↔ r ∈ late ∨ ∃ row ∈ l, ∃ n ∈ d.tries, r = row ++ [n]
  | [], late, r => by simp
  | q :: l, late, r => by
    rw [List.foldl_cons, late_mem2 l, List.mem_append, List.mem_map]
    constructor
    · rintro ((h | ⟨n, hn, rfl⟩) | ⟨row, hr, n, hn, e⟩)
      · exact .inl h
      · exact .inr ⟨q, List.mem_cons_self, n, hn, rfl⟩
      · exact .inr ⟨row, List.mem_cons_of_mem _ hr, n, hn, e⟩
    · rintro (h | ⟨row, hr, n, hn, e⟩)
      · exact .inl (.inl h)
      · rcases List.mem_cons.mp hr with rfl | hr
        · exact .inl (.inr ⟨n, hn, e.symm⟩)
        · exact .inr ⟨row, hr, n, hn, e⟩
/-- what a timing is -/
inductive TmRow : Fl → List Nat → Prop
  | nil : TmRow [] []
  | cons {d : Dev} {n : Nat} {fl : Fl} {r : List Nat} : n ∈ d.tries → TmRow fl r → TmRow (d :: fl) (n :: r)
theorem TmRow.snoc {d : Dev} {n : Nat} (h2 : n ∈ d.tries) : ∀ {fl : Fl} {r : List Nat}, TmRow fl r → TmRow (fl ++ [d]) (r ++ [n])
  | _, _, .nil => .cons h2 .nil
  | _, _, .cons a b => .cons a (TmRow.snoc h2 b)
theorem tim_mem : ∀ (fl done : Fl) (found : List (List Nat)), (∀ r ∈ found, TmRow done r) → ∀ r ∈ fl.foldl tmStep found, TmRow (done ++ fl) r
  | [], done, found, h, r, hr => by rw [List.append_nil]; exact h r hr
  | d :: fl, done, found, h, r, hr => by
    rw [List.foldl_cons] at hr
    have := tim_mem fl (done ++ [d]) (tmStep found d) (fun r hr => by
      unfold tmStep at hr
      rcases (late_mem2 found [] r).mp hr with z | ⟨row, h1, n, h2, rfl⟩
      · cases z
      · exact (h row h1).snoc h2) r hr
    rw [List.append_assoc] at this
    exact this
theorem tim_ne : ∀ (fl : Fl) (found : List (List Nat)), found ≠ [] → (∀ d ∈ fl, d.tries ≠ []) → fl.foldl tmStep found ≠ []
  | [], found, h, _ => h
  | d :: fl, found, h, ht => by
    rw [List.foldl_cons]
    refine tim_ne fl _ (fun z => ?_) fun x hx => ht x (List.mem_cons_of_mem _ hx)
    obtain ⟨row, hr⟩ := List.exists_mem_of_ne_nil found h
    obtain ⟨n, hn⟩ := List.exists_mem_of_ne_nil d.tries (ht d List.mem_cons_self)
    have : row ++ [n] ∈ tmStep found d := (late_mem2 found [] _).mpr (.inr ⟨row, hr, n, hn, rfl⟩)
    rw [z] at this
    cases this
/-- the devices with their moments and lates -/
def mkTm : Fl → List Nat → List Nat → List Tm
  | d :: fl, b :: bs, l :: ls => (d, b, l) :: mkTm fl bs ls
  | _, _, _ => []
theorem mk_tm : ∀ {fl : Fl} {bs ls : List Nat}, TmRow fl bs → ls.length = fl.length → flOf (mkTm fl bs ls) = fl ∧ (mkTm fl bs ls).map (fun p => p.2.1) = bs ∧ (mkTm fl bs ls).map (fun p => p.2.2) = ls ∧ ∀ p ∈ mkTm fl bs ls, p.1 ∈ fl ∧ p.2.1 ∈ p.1.tries ∧ p.2.2 ∈ ls
  | [], [], ls, _, h => by
    cases ls with
    | nil => exact ⟨rfl, rfl, rfl, fun p hp => nomatch hp⟩
    | cons a b => cases h
  | [], _ :: _, _, h, _ => nomatch h
  | _ :: _, [], _, h, _ => nomatch h
  | d :: fl, b :: bs, ls, hr, h => by
    cases ls with
    | nil => cases h
    | cons l ls =>
      cases hr with
      | cons h1 h2 =>
        obtain ⟨a1, a2, a3, a4⟩ := mk_tm h2 (Nat.succ.inj h)
        refine ⟨?_, ?_, ?_, fun p hp => ?_⟩
        · show d :: flOf (mkTm fl bs ls) = _
          rw [a1]
        · show b :: (mkTm fl bs ls).map (fun p => p.2.1) = _
          rw [a2]
        · show l :: (mkTm fl bs ls).map (fun p => p.2.2) = _
          rw [a3]
        · rcases List.mem_cons.mp hp with rfl | hp
          · exact ⟨List.mem_cons_self, h1, List.mem_cons_self⟩
          · obtain ⟨q1, q2, q3⟩ := a4 p hp
            exact ⟨List.mem_cons_of_mem _ q1, q2, List.mem_cons_of_mem _ q3⟩
theorem ann_asc : Asc ltS annL := by
  unfold Asc annL
  simp only [List.pairwise_cons, List.mem_cons, List.not_mem_nil, or_false, forall_eq_or_imp, forall_eq]
  refine ⟨⟨?_, ?_, ?_⟩, ⟨?_, ?_⟩, ?_, ?_, List.Pairwise.nil⟩ <;> first | decide +kernel | (intro a h; exact h.elim)
theorem last_le : ∀ {l : List Nat}, Asc ltN l → ∀ t ∈ l, t ≤ l.getLast?.getD 0
  | [], _, t, ht => nomatch ht
  | [x], _, t, ht => by
    rw [List.mem_singleton.mp ht]
    exact Nat.le_refl _
  | x :: y :: l, h, t, ht => by
    obtain ⟨h1, h2⟩ := List.pairwise_cons.mp h
    have e : (x :: y :: l).getLast? = (y :: l).getLast? := by simp
    rw [e]
    rcases List.mem_cons.mp ht with e1 | ht
    · rw [e1]
      have a := of_decide_eq_true (h1 y List.mem_cons_self)
      have b := last_le h2 y List.mem_cons_self
      omega
    · exact last_le h2 t ht
theorem tm_ok {fl : Fl} (hf : FlP fl) {bs ls : List Nat} (hr : TmRow fl bs) (hl : ls.length = fl.length) (h9 : ∀ x ∈ ls, 1 ≤ x ∧ x ≤ 9) : TmOk (mkTm fl bs ls) := by
  obtain ⟨a1, a2, a3, a4⟩ := mk_tm hr hl
  refine ⟨by rw [a1]; exact hf.ok, ?_, fun p hp => (a4 p hp).2.1, fun p hp => ?_, fun p hp t ht => ?_⟩
  · have e : (mkTm fl bs ls).map (fun p => p.1.nm) = fl.map Dev.nm := by
      conv => rhs; rw [← a1]
      rw [List.map_map]
      rfl
    rw [e]
    obtain ⟨n, _, _, e2⟩ := hf.nm
    rw [e2]
    exact List.Pairwise.sublist (List.take_sublist n annL) ann_asc
  · obtain ⟨q1, q2, q3⟩ := a4 p hp
    obtain ⟨l, e, _, _, h7⟩ := (hf.dev _ q1).tr
    rw [e] at q2
    have := h7 _ ((mem_ordU lin_nat).mp q2)
    have := h9 _ q3
    omega
  · obtain ⟨q1, q2, q3⟩ := a4 p hp
    obtain ⟨l, e, _⟩ := (hf.dev _ q1).tr
    unfold lastN
    rw [e] at ht ⊢
    exact last_le (asc_ordU lin_nat) t ht
theorem dGet_put {kvs : List (Str × T)} {k k2 : Str} {t : T} : dGet (dPut kvs k t) k2 = if k2 = k then some t else dGet kvs k2 := by
  unfold dGet dPut
  by_cases hc : (kvs.any fun p => p.1 == k) = true
  · rw [if_pos hc]
    induction kvs with
    | nil => simp at hc
    | cons q kvs ih =>
      obtain ⟨q1, q2⟩ := q
      rw [List.map_cons, List.lookup_cons]
      by_cases hq : q1 = k
      · subst hq
        simp only [beq_self_eq_true, if_true]
        by_cases h2 : k2 = q1
        · subst h2
          simp
        · have e : (k2 == q1) = false := by simp [h2]
          rw [List.lookup_cons, e, if_neg h2]
          simp only
          clear ih hc
          induction kvs with
          | nil => rfl
          | cons w kvs ih2 =>
            obtain ⟨w1, w2⟩ := w
            rw [List.map_cons, List.lookup_cons]
            by_cases hw : w1 = q1
            · subst hw
              simp only [beq_self_eq_true, if_true, List.lookup_cons, e]
              exact ih2
            · have e2 : (w1 == q1) = false := by simp [hw]
              simp only [e2, List.lookup_cons, Bool.false_eq_true, if_false]
              cases k2 == w1 with
              | true => rfl
              | false => exact ih2
      · have e : (q1 == k) = false := by simp [hq]
        simp only [e, Bool.false_eq_true, if_false, List.lookup_cons]
        have hc' : (kvs.any fun p => p.1 == k) = true := by simpa [e] using hc
        by_cases h2 : k2 = q1
        · subst h2
          have : (k2 == k2) = true := by simp
          rw [this, if_neg hq]
        · have e3 : (k2 == q1) = false := by simp [h2]
          rw [e3]
          exact ih hc'
  · rw [if_neg hc]
    induction kvs with
    | nil =>
      rw [List.nil_append, List.lookup_cons]
      by_cases h2 : k2 = k
      · subst h2; simp
      · have e : (k2 == k) = false := by simp [h2]
        rw [e, if_neg h2]
    | cons q kvs ih =>
      obtain ⟨q1, q2⟩ := q
      have hq : ¬ q1 = k := fun z => hc (by simp [z])
      have hc' : ¬ (kvs.any fun p => p.1 == k) = true := fun z => hc (by rw [List.any_cons, z, Bool.or_true])
      rw [List.cons_append, List.lookup_cons, List.lookup_cons]
      by_cases h2 : k2 = q1
      · subst h2
        have : (k2 == k2) = true := by simp
        rw [this, if_neg hq]
      · have e3 : (k2 == q1) = false := by simp [h2]
        rw [e3]
        exact ih hc'
theorem len_put {kvs : List (Str × T)} {k : Str} {t : T} : (dPut kvs k t).length ≤ kvs.length + 1 := by
  unfold dPut
  split
  · rw [List.length_map]; omega
  · rw [List.length_append]; exact Nat.le_refl _
theorem cls3_ok : ∀ c ∈ cls3, PyData.strOk c = true := by decide +kernel
section
variable {X : Cx} {ρ : List Sl} {pos : Pos}
theorem y_dict0 : PyN X (.Dict [] [] pos) ρ (.d []) := PyG.of pe_dnewK fun σ H C B st => fun p hp => ⟨same_new hp, p, [], rfl, hp, upd_same, trivial⟩
end
def r_right (as : List A4) (need : Nat) (G : T → Prop) : Prop := as = [] ∧ need = 98 ∧ G = fun t => t = .bl true
section
variable {P : Program} {w : World} {K : PySem.W.Frag} {mg : Str → Option Value} {base : Heap}
theorem ok_right (E : E9 K mg) {k : Nat} (G1 : OkU P w base k E.f_l_take r_take) (G2 : OkU P w base k E.f_l_of r_of) (G3 : OkU P w base k E.f_l_fleet r_fleet) (G4 : OkU P w base k E.f_l_row r_row) (H1 : Ok9 P w base k E.f_l_kinds r_l_kinds) (H2 : Ok9 P w base k E.f_l_line_right r_line_right)
    (H3 : Ok9 P w base k E.f_l_timings r_l_timings) (H4 : Ok9 P w base k E.f_l_fleet_right r_fleet_right) : OkU P w base (k + 1) E.f_l_right r_right := okU sc_l_right fun cdv A outer s H Ex as need G p u m hr hl h hu hm => by
  obtain ⟨rfl, rfl, rfl⟩ := h
  have hm' : m + 98 ≤ 1073741824 := hm
  -- urn 0, tag 1, host 2, lines 3, begins 4, lates 5, own 6
  refine ru_parE 1 2 (m := m + 21) (G := fun t => ∃ fl : Fl, FlP fl ∧ t = flT fl) (w := .d []) rfl sc_l_right.nd (by decide) (e_call1 (f := E.f_l_fleet) (z := .t (natT 4)) G3 hr y_int ⟨rfl, rfl, rfl⟩ hu (by omega)) (fun u' hu' => y_dict0) fun u1 t1 hu1 g1 => ?_
  obtain ⟨fl, hf, rfl⟩ := g1
  have hfo := hf.ok
  have hfl := hf.len
  have hcl : (clsL fl).length ≤ 4 := by
    have := len_ordU (lt := ltS) (fl.map Dev.cls)
    rw [List.length_map] at this
    show (ordU ltS (fl.map Dev.cls)).length ≤ 4
    omega
  have hcm : ∀ c ∈ clsL fl, c ∈ cls3 := fun c hc => by
    obtain ⟨d, hd, rfl⟩ := List.mem_map.mp ((mem_ordU lin_str).mp hc)
    exact (hf.dev d hd).cls
  refine ru_for (ts := (clsL fl).map T.str) rfl (i_tup (y_callT (f := E.f_l_kinds) H1 hr (a1 (yv 2)) ⟨fl, hfo, rfl, rfl⟩))
    (fun i ρ => ∃ (u' : Uv) (ro : Str → Rw) (kvs : List (Str × T)), Urn (m + 21 + 18 * i) u' ∧ kvs.length ≤ i ∧ (∀ c ∈ (clsL fl).take i, (ro c).Ok ∧ dGet kvs c = some (ro c).tf) ∧ ρ = [.urn p u', .no, .val (flT fl), .dic kvs, .no, .no, .no])
    ⟨u1, fun _ => ⟨[], [], [], []⟩, [], hu1, Nat.le_refl _, (fun c hc => nomatch hc), rfl⟩ (fun i t ρ ht hp => ?_) fun ρ hp => ?_
  · obtain ⟨u2, ro, kvs, hu2, hk, hro, rfl⟩ := hp
    rw [List.getElem?_map] at ht
    cases hx : (clsL fl)[i]? with
    | none => rw [hx] at ht; cases ht
    | some c =>
      rw [hx] at ht
      cases ht
      have hi : i < 4 := by have := (List.getElem?_eq_some_iff.mp hx).1; omega
      refine ⟨_, _, g_name 1 sc_l_right.nd, ?_⟩
      refine ru_dputE 2 (m := m + 21 + 18 * i + 18) (kk := c) (kvs := kvs) (G := fun t => ∃ rw : Rw, rw.Ok ∧ t = rw.tf) (Nine.u1 hr) rfl (e_call0 (f := E.f_l_row) G4 hr ⟨rfl, rfl, rfl⟩ hu2 (by omega)) (fun u' hu' => yv 1) (fun u3 t3 hu3 g3 => ?_) (by omega)
      obtain ⟨rw, ok, rfl⟩ := g3
      refine ru_skip (Pt.eq (t_not (t_val (y_callT (t := .bl true) (f := E.f_l_line_right) H2 hr (a1 (x := .t rw.tf) (y_dget (Nine.u1 hr) (yd 3) (yv 1) (by rw [dGet_put, if_pos rfl]))) ⟨rw, ok, rfl, rfl⟩))) rfl) ?_
      refine ru_forget 1 (ru_end ⟨u3, fun c' => if c' = c then rw else ro c', dPut kvs c rw.tf, hu3.mono (by omega), Nat.le_trans len_put (by omega), fun c' hc' => ?_, rfl⟩)
      rw [dGet_put]
      by_cases e : c' = c
      · simp only [if_pos e]
        exact ⟨ok, trivial⟩
      · simp only [if_neg e]
        rw [take_snoc hx] at hc'
        rcases List.mem_append.mp hc' with z | z
        · exact hro c' z
        · exact absurd (List.mem_singleton.mp z) e
  · obtain ⟨u2, ro, kvs, hu2, hk, hro, rfl⟩ := hp
    rw [List.length_map] at hu2 hk hro
    rw [List.take_length] at hro
    have hu3 : Urn (m + 93) u2 := hu2.mono (by omega)
    have htim := tim_ok fl [[]] 0 1 (fun x hx => (hfo.tr x hx).2) (by simp) (by simp)
    have hne : timL fl ≠ [] := tim_ne fl [[]] (by simp) fun d hd => (hfo.tr d hd).1
    have hrow : ∀ r ∈ timL fl, TmRow fl r := fun r hr => by
      have := tim_mem fl [] [[]] (fun r hr => by rw [List.mem_singleton.mp hr]; exact .nil) r hr
      exact this
    have h1000 : (timL fl).length ≤ 1000 := by
      have h4 : 4 ^ fl.length ≤ 4 ^ 4 := Nat.pow_le_pow_right (by omega) hfl.2
      have := htim.2
      have e4 : 4 ^ 4 = 256 := by decide
      show (fl.foldl tmStep [[]]).length ≤ 1000
      omega
    refine ru_parE2 3 4 (m := m + 93 + 1) (m' := m + 93 + 1 + 4) (G := fun t => ∃ bs, TmRow fl bs ∧ t = natsT bs) (G2 := fun t => ∃ ls : List Nat, (ls.length = fl.length ∧ ∀ x ∈ ls, 1 ≤ x ∧ x ≤ 9) ∧ t = .tup (ls.map natT)) rfl sc_l_right.nd (by decide) ?qb (fun u4 hu4 => ?ql) fun u4 t4 t5 hu4 ⟨bs, hbs, e4⟩ ⟨ls, ⟨hls, h9⟩, e5⟩ => ?_
    case qb =>
      refine PyE.impT (m := m + 93 + 1) (e_call1 (f := E.f_l_of) (z := .s ((timL fl).map natsT)) G2 hr (y_call (f := E.f_l_timings) H3 hr (a1 (yv 2)) ⟨fl, hfo, rfl, rfl⟩) ⟨(timL fl).map natsT, by simp [hne], by rw [List.length_map]; exact h1000, .inl rfl, rfl, rfl⟩ hu3 (by omega)) (fun t ht => ?_) (Nat.le_refl _)
      obtain ⟨bs, hb, rfl⟩ := List.mem_map.mp ht
      exact ⟨bs, hrow bs hb, rfl⟩
    case ql =>
      refine PyE.impT (m := m + 93 + 1 + 4 * 1) (e_tupleL (e_lc (own := [("_law_own", 6)]) (m0 := m + 93 + 1) (c := 1) 4 (G := fun ts => ts = fl.map Dev.t)
        (fun ts i acc => ∃ l : List Nat, acc = l.map natT ∧ l.length = i ∧ ∀ x ∈ l, 1 ≤ x ∧ x ≤ 9) [6] rfl sc_l_right.nd (PiI.toE (i_tup (yv 2)) hu4) (blkOk_by (N := n_l_right) (sc := defScope s_l_right) (by decide +kernel)) (by decide) (fun ts e => by rw [e, List.length_map]; omega) (fun ts _ => ⟨[], rfl, rfl, fun x hx => nomatch hx⟩) fun ts j t u3 hg hx hu3 => ?qe) E.b_tuple) ?qf (Nat.le_refl _)
      case qe =>
        have hj : j < 4 := by
          subst hg
          have := (List.getElem?_eq_some_iff.mp hx).1
          rw [List.length_map] at this
          omega
        refine ⟨_, fun u4 b => u4 = u3 ∧ b = true, fun s H C cl fp => ⟨g_name 6 sc_l_right.nd, tse_nil ⟨rfl, rfl⟩, fun u4 z => ?_⟩, fun u4 z => nomatch z.2⟩
        rw [z.1]
        exact PyE.impT (m := m + 93 + 1 + j * 1 + 1) (e_add (i := 1) (P := fun n => n < 9) y_int (e_call1 (f := E.f_l_take) (z := .t (natT 9)) G1 hr y_int ⟨9, by decide, by decide, rfl, rfl, rfl⟩ hu3 (by omega))) (fun t ⟨n, hn, e⟩ acc ⟨l, e1, e2, e3⟩ => ⟨l ++ [1 + n], by rw [e1, e, List.map_append]; rfl, by rw [List.length_append, e2]; rfl, fun x hx => (List.mem_append.mp hx).elim (e3 x) fun hx => by rw [List.mem_singleton.mp hx]; omega⟩) (by omega)
      case qf =>
        rintro t ⟨acc, ⟨ts, e, l, e1, e2, e3⟩, e0⟩
        subst e
        rw [List.length_map] at e2
        exact ⟨l, ⟨e2, e3⟩, by rw [e0, e1]⟩
    subst e4; subst e5
    obtain ⟨a1', a2, a3, a4⟩ := mk_tm hbs hls
    have tok := tm_ok hf hbs hls h9
    refine ru_retP (t := .bl true) (y_callT (t := .bl true) (f := E.f_l_fleet_right) H4 hr (a_cons (yv 2) (a_cons (yv 4) (a_cons (yv 5) (a1 (yd 3))))) ⟨mkTm fl bs ls, ro, kvs, tok, ?_, ?_, ?_, rfl⟩) ⟨rfl, u4, _, hu4, rfl⟩
    · intro z
      have e : flOf (mkTm fl bs ls) = [] := by rw [z]; rfl
      rw [a1'] at e
      rw [e] at hfl
      simp at hfl
    · rw [a1']
      exact fun c hc => ⟨cls3_ok c (hcm c hc), hro c hc⟩
    · show [A4.t (flT fl), A4.t (natsT bs), A4.t (.tup (ls.map natT)), A4.d kvs] = [A4.t (flT (flOf (mkTm fl bs ls))), A4.t (.tup (((mkTm fl bs ls).map fun p => p.2.1).map natT)), A4.t (.tup (((mkTm fl bs ls).map fun p => p.2.2).map natT)), A4.d kvs]
      rw [a1', a2, a3]
      rfl
end
end Nine
set_option maxHeartbeats 1000000
/-! K9K: lists in lists, displays of dicts, the drawn numbers brought together. -/
namespace Nine
open PySem PySem.Spec PyProof.Rows L2
section
variable {X : Cx} {e a b a1 a2 k1 k2 k3 v1 v2 v3 : Expr} {ρ : List Sl} {pos pos' p' p2' : Pos} {rest : List Stmt} {D : De}
/-- a new list, never changed -/
theorem Py.lst {ts : List T} (h : PyL X e ρ ts) : Py X e ρ (.lst ts) := fun pins s σ H C B I r =>
  thn (h pins s σ H C B I r) fun u s' ⟨v, H', I', rv, sm, p, xs, ev, n, hp, im⟩ => by
    subst ev
    obtain ⟨od, I2⟩ := I'.lock hp True.intro
    have tk : TK X.K H' (L2.upd H' p (.frz od (.lst xs))) := tk_upd (fun xs z => by rw [hp] at z; cases z) fun u xs z => by rw [hp] at z; cases z
    exact ⟨.ref p, _, I2, rv, same_mut sm n, .lst upd_same (im.tk tk)⟩
/-- xs or ys -/
theorem y_orL {ts us : List T} (ha : PyL X a ρ ts) (hb : PyL X b ρ us) : PyL X (.BoolOp .Or [a, b] pos) ρ (if ts = [] then us else ts) :=
  PyG.of (pe_orT (rest := []) pe_g (pe_one pe_g)) fun σ H C B st => g_use ha st fun v H1 s1 ⟨p, xs, ev, n, hp, im⟩ => by
    subst ev
    refine ⟨!xs.isEmpty, .inl ⟨xs, SqL.of hp, rfl⟩, ?_⟩
    cases xs with
    | nil =>
      cases im
      refine iteF (g_use hb (st.mono s1) fun w H2 s2 q2 => ⟨s1.trans s2, ?_⟩)
      rw [if_pos rfl]
      exact q2.down s1
    | cons x xs =>
      cases im with
      | cons i1 i2 =>
        refine iteT ⟨s1, ?_⟩
        rw [if_neg (List.cons_ne_nil _ _)]
        exact ⟨p, _, rfl, n, hp, .cons i1 i2⟩
theorem imAll_repB {K : PySem.W.Frag} {H : Hp} (x : Bool) : ∀ k : Nat, ImAll K H (List.replicate k (V.bl x)) (List.replicate k (T.bl x))
  | 0 => .nil
  | k + 1 => .cons (.bl x) (imAll_repB x k)
/-- [True] * k -/
theorem y_repL {x : Bool} {k : Nat} (ha : PyL X a ρ [.bl x]) (hb : Py X b ρ (natT k)) (hk : k ≤ 1000) : PyL X (.BinOp a .Mult b pos) ρ (List.replicate k (.bl x)) :=
  y_op op_rep ha hb fun H u H1 v H2 s1 s2 q1 q2 => by
    obtain ⟨l, xs, rfl, n, hs, hm⟩ := q1
    have e : xs = [V.bl x] := ImAll.bls (ns := [x]) hm
    subst e
    refine ⟨l, k, _, rfl, Im.int_eq q2, s2 _ _ hs, by omega, by omega, by rw [Int.toNat_natCast, sizeLine_eq]; simp; omega, fun p hp => ⟨(s1.trans s2).trans (same_new hp), p, _, rfl, (s1.trans s2).free hp, upd_same, ?_⟩⟩
    rw [Int.toNat_natCast, rep_flat]
    exact imAll_repB x k
theorem y_dict3 {x1 x2 x3 : Str} {t1 t2 t3 : T} (hk1 : Py X k1 ρ (.str x1)) (hv1 : Py X v1 ρ t1) (hk2 : Py X k2 ρ (.str x2)) (hv2 : Py X v2 ρ t2) (hk3 : Py X k3 ρ (.str x3)) (hv3 : Py X v3 ρ t3) :
    PyN X (.Dict [some k1, some k2, some k3] [v1, v2, v3] pos) ρ (.d (dPut (dPut (dPut [] x1 t1) x2 t2) x3 t3)) :=
  PyG.of (pe_disp (pps_cons pe_g pe_g (pps_cons pe_g pe_g (pps_cons pe_g pe_g pps_nil))) rfl rfl (fun z => nomatch z) (by show 3 ≤ 15; decide)) fun σ H C B st p hp => by
    have s0 : Same H (L2.upd H p (.dK [])) := same_new hp
    refine g_use hk1 (st.mono s0) fun y1 H1 s1 q1 => g_use hv1 (st.mono (s0.trans s1)) fun w1 H2 s2 r1 => g_use hk2 (st.mono ((s0.trans s1).trans s2)) fun y2 H3 s3 q2 => g_use hv2 (st.mono (((s0.trans s1).trans s2).trans s3)) fun w2 H4 s4 r2 => g_use hk3 (st.mono ((((s0.trans s1).trans s2).trans s3).trans s4)) fun y3 H5 s5 q3 => g_use hv3 (st.mono (((((s0.trans s1).trans s2).trans s3).trans s4).trans s5)) fun w3 H6 s6 r3 => ?_
    have s16 := ((((s1.trans s2).trans s3).trans s4).trans s5).trans s6
    have hp6 : H6 p = some (.dK []) := s16 _ _ upd_same
    have r1' : Im X.K H2 w1 t1 := r1
    have r2' : Im X.K H4 w2 t2 := r2
    have r3' : Im X.K H6 w3 t3 := r3
    refine ⟨hp6, [(.inr x1, w1), (.inr x2, w2), (.inr x3, w3)], ?_, by show 3 ≤ 15; decide, ?_, p, _, rfl, hp, upd_same, ?_⟩
    · rw [Im.str_eq q1, Im.str_eq q2, Im.str_eq q3]
      rfl
    · exact same_mut (s0.trans s16) hp
    · have tk : TK X.K H6 (L2.upd H6 p (.dK (mergeK [] [(.inr x1, w1), (.inr x2, w2), (.inr x3, w3)]))) := tk_upd (fun xs z => by rw [hp6] at z; cases z) fun u xs z => by rw [hp6] at z; cases z
      have base : KvOk X.K H6 [] [] := trivial
      exact (((base.put (k := x1) (r1'.mono (((s3.trans s4).trans s5).trans s6))).put (k := x2) (r2'.mono (s5.trans s6))).put (k := x3) r3').tk tk
/-- d[k1], d[k2] = e1, e2 -/
theorem ru_dput2 (i : Nat) {x : Str} {kvs : List (Str × T)} {x1 x2 : Str} {t1 t2 : T} {px py pt : Pos} {kt k9 : Nat} {pt2 : Pos} (hu : X.A.units + 1 < cLine) (hi : ρ[i]? = some (.dic kvs)) (h1 : Py X a1 ρ t1) (h2 : Py X a2 ρ t2) (hk1 : Py X k1 ρ (.str x1)) (hk2 : ∀ ρ', Py X k2 ρ' (.str x2))
    (q : Ru X rest (ρ.set i (.dic (dPut (dPut kvs x1 t1) x2 t2))) D) (hl : kvs.length < 90000) (hc : X.calm = true) (hN : X.N[i]? = some x := by rfl)
    (hps : PS X (.Assign [.Tuple [.Subscript (.Name x px) k1 p', .Subscript (.Name x py) k2 p2'] kt pt] (.Tuple [a1, a2] k9 pt2) pos) (tAsg (tTup (tCons (tG X a1) (tCons (tG X a2) tNil))) (gTup X.K 2 (gCons (gSub (tVar i) (tG X k1) rSetD) (gCons (gSub (tVar i) (tG X k2) rSetD) gNil)))) := by exact ps_asg (pe_tup (pa_cons pe_g (pa_cons pe_g pa_nil))) (pg_tup (n := 2) rfl (pgs_cons (pg_sub (pv _) pe_g (set_dict (by assumption))) (pgs_cons (pg_sub (pv _) pe_g (set_dict (by assumption))) pgs_nil)))) :
    Ru X (.Assign [.Tuple [.Subscript (.Name x px) k1 p', .Subscript (.Name x py) k2 p2'] kt pt] (.Tuple [a1, a2] k9 pt2) pos :: rest) ρ D :=
  Ru.of (pss_cons hps pss_ru) fun σ H C B st => g_use h1 st fun v1 H1 s1 q1 => g_use h2 (st.mono s1) fun v2 H2 s2 q2 => by
    refine ⟨by show 2 ≤ sizeLine; decide, fun c hc2 => ?_⟩
    have s3 : Same H2 (L2.upd H2 c (.tup [v1, v2])) := same_new hc2
    have st3 := ((st.mono s1).mono s2).mono s3
    have hil : i < ρ.length := (List.getElem?_eq_some_iff.mp hi).1
    refine ⟨c, [v1, v2], rfl, SqT.of upd_same, rfl, v1, [v2], rfl, ?_⟩
    obtain ⟨p, ks, ep, n, e2, m⟩ := st3.slots i _ hi
    refine ⟨.ref p, join_some ep, g_use hk1 st3 fun w1 H4 s4 r1 => ?_⟩
    have st4 := st3.mono s4
    have e4 := s4 _ _ e2
    have im1 : Im X.K H4 v1 t1 := Im.mono ((s2.trans s3).trans s4) q1
    have im2 : Im X.K H4 v2 t2 := Im.mono (s3.trans s4) q2
    have m4 := m.tk (tk_same s4)
    have st5 : StR X.K C B σ (L2.upd H4 p (.dK (putK ks (.inr x1) v1))) (ρ.set i (.dic (dPut kvs x1 t1))) := st4.write hi rfl ep fun tk => ⟨p, _, rfl, n, upd_same, (m4.put im1).tk tk⟩
    have tk5 : TK X.K H4 (L2.upd H4 p (.dK (putK ks (.inr x1) v1))) := tk_upd (fun xs z => by rw [e4] at z; cases z) fun u xs z => by rw [e4] at z; cases z
    have lk := m.length
    unfold rSetD
    refine ⟨p, L2.upd H4 p (.dK (putK ks (.inr x1) v1)), rfl, ?_, v2, [], rfl, ?_⟩
    · rw [Im.str_eq r1]
      exact DPut.k (k := (.inr x1 : Key)) e4 (by rw [lk, sizeLine_eq]; omega)
    · refine ⟨.ref p, join_some ep, g_use (hk2 _) st5 fun w2 H6 s6 r2 => ?_⟩
      have e6 : H6 p = some (.dK (putK ks (.inr x1) v1)) := s6 _ _ upd_same
      have l6 : (putK ks (.inr x1) v1).length ≤ ks.length + 1 := length_putK _ _ _
      refine ⟨p, L2.upd H6 p (.dK (putK (putK ks (.inr x1) v1) (.inr x2) v2)), rfl, ?_, rfl, ru_use q ?_⟩
      · rw [Im.str_eq r2]
        exact DPut.k (k := (.inr x2 : Key)) e6 (by rw [sizeLine_eq]; omega)
      · have st6 := st5.mono s6
        have hi5 : (ρ.set i (.dic (dPut kvs x1 t1)))[i]? = some (.dic (dPut kvs x1 t1)) := List.getElem?_set_self hil
        have := st6.write hi5 rfl ep (b := .dic (dPut (dPut kvs x1 t1) x2 t2)) (u := .dK (putK (putK ks (.inr x1) v1) (.inr x2) v2)) fun tk => by
          have mm : KvOk X.K H6 (putK (putK ks (.inr x1) v1) (.inr x2) v2) (dPut (dPut kvs x1 t1) x2 t2) := (((m4.put im1).tk tk5).tk (tk_same s6)).put ((im2.tk tk5).mono s6)
          exact ⟨p, _, rfl, n, upd_same, mm.tk tk⟩
        rw [List.set_set] at this
        exact this
end
/-- the numbers of the script brought together, two of them at most -/
def cellsB (ns : List Int) : List Int := if ns.take 2 = [] then [0] else ns.take 2
def cellsStep (b : List Int) (q : Nat × Int) : List Int := b.set (q.1 % 2) (b.getD (q.1 % 2) 0 + q.2 * ((q.1 : Int) + 2))
def cellsF (ns : List Int) : List Int := ((List.range ((ns.drop 2).take 61).length).zip ((ns.drop 2).take 61)).foldl cellsStep (cellsB ns)
theorem cellsStep_len (b : List Int) (q : Nat × Int) : (cellsStep b q).length = b.length := List.length_set
theorem cellsRun_len : ∀ (l : List (Nat × Int)) (b : List Int), (l.foldl cellsStep b).length = b.length
  | [], _ => rfl
  | q :: l, b => by rw [List.foldl_cons, cellsRun_len l, cellsStep_len]
theorem cellsB_len (ns : List Int) : 1 ≤ (cellsB ns).length ∧ (cellsB ns).length ≤ 2 ∧ (2 ≤ ns.length → (cellsB ns).length = 2) := by
  unfold cellsB
  match ns with
  | [] => exact ⟨Nat.le_refl _, by decide, by simp⟩
  | [x] => exact ⟨by simp, by simp, by simp⟩
  | x :: y :: l => exact ⟨by simp, by simp, fun _ => by simp⟩
theorem cellsF_len (ns : List Int) : 1 ≤ (cellsF ns).length ∧ (cellsF ns).length ≤ 2 := by
  have h := cellsB_len ns
  unfold cellsF
  rw [cellsRun_len]
  omega
theorem zip_enum : ∀ (k : Nat) (xs : List Int) (n : List Nat), n.length = xs.length → List.zipWith (fun a b => T.tup [a, b]) (n.map fun k : Nat => T.int (k : Int)) (xs.map T.int) = (n.zip xs).map fun q => T.tup [natT q.1, .int q.2]
  | _, [], [], _ => rfl
  | k, x :: xs, m :: n, h => by
    rw [List.map_cons, List.map_cons, List.zipWith_cons_cons, zip_enum k xs n (Nat.succ.inj h), List.zip_cons_cons, List.map_cons]
    rfl
section
variable {P : Program} {w : World} {K : PySem.W.Frag} {mg : Str → Option Value} {base : Heap}
def r_cells (as : List A4) (r : A4) : Prop := ∃ ns : List Int, ns.length ≤ 63 ∧ as = [.s (ns.map T.int), .t (natT 2)] ∧ r = .s ((cellsF ns).map T.int)
theorem ok_cells (E : E9 K mg) {k : Nat} : Ok9 P w base (k + 1) E.f_l_cells r_cells := ok9 sc_l_cells fun cdv A outer s H Ex as r hr hl h => by
  obtain ⟨ns, h63, rfl, rfl⟩ := h
  have cut2 : cutT (ns.map T.int) none (some 2) = (ns.take 2).map T.int := by
    rw [List.map_take]
    exact cut_take (n := 2)
  have cut61 : cutT (ns.map T.int) (some 2) (some 63) = ((ns.drop 2).take 61).map T.int := by
    unfold cutT
    rw [show (some (2 : Int)) = some ((2 : Nat) : Int) from rfl, show (some (63 : Int)) = some ((63 : Nat) : Int) from rfl, HT.sIx_nat, HT.sIx_nat, List.length_map, List.map_take, List.map_drop]
    by_cases h : 2 ≤ ns.length
    · rw [Nat.min_eq_left h, Nat.min_eq_right h63, List.take_of_length_le (by rw [List.length_drop, List.length_map]; omega), List.take_of_length_le (by rw [List.length_drop, List.length_map]; omega)]
    · rw [List.drop_of_length_le (i := 2) (by rw [List.length_map]; omega), Nat.min_eq_right (by omega : ns.length ≤ 2), List.drop_of_length_le (by rw [List.length_map]; omega), List.take_nil, List.take_nil]
  -- script 0, roof 1, bits 2, k 3, bit 4, at 5
  refine ru_set 2 (y := .s ((cellsB ns).map T.int)) sc_l_cells.nd ?q0 ?_
  case q0 =>
    refine PyL.eq (y_orL (y_listL (PyN.arg (PyL.eq (y_slL (i := none) (j := some 2) (yl 0) .no (.at (yv 1))) cut2)) E.b_list) (y_lst (b_cons y_int b_nil))) ?_
    unfold cellsB
    cases ns <;> simp
  have hB := cellsB_len ns
  refine ru_fold ((List.range ((ns.drop 2).take 61).length).zip ((ns.drop 2).take 61)) (fun q => T.tup [natT q.1, .int q.2]) cellsStep (cellsB ns) (fun b => [.sq (ns.map T.int), .val (natT 2), .own (b.map T.int), .no, .no, .no]) rfl rfl
    (PiI.eq (i_enumL (PyL.eq (y_slL (i := some 2) (j := some 63) (yl 0) (.at (yv 1)) (.at y_int)) cut61) E.b_enumerate) (by rw [List.length_map]; exact zip_enum 0 _ _ (by rw [List.length_range]))) (fun i q b hq hb => ⟨_, _, g_tup rfl (gs_cons (g_name 3 sc_l_cells.nd) (gs_cons (g_name 4 sc_l_cells.nd) gs_nil)), ?_⟩) (fun _ => rfl) (ru_retOwn 2 rfl rfl)
  have hz := List.mem_of_getElem? hq
  have hbl : b.length = 2 := by
    rw [hb, cellsRun_len]
    refine hB.2.2 ?_
    have h1 := (List.getElem?_eq_some_iff.mp hq).1
    rw [List.length_zip, List.length_range, List.length_take, List.length_drop] at h1
    omega
  have hq1 : q.1 < 61 := by
    have := List.mem_range.mp (List.of_mem_zip hz).1
    rw [List.length_take] at this
    omega
  have hlt : q.1 % 2 < 2 := Nat.mod_lt _ (by decide)
  have hget : (b.map T.int)[q.1 % 2]? = some (.int (b.getD (q.1 % 2) 0)) := by
    rw [List.getElem?_map, List.getD_eq_getElem?_getD, List.getElem?_eq_getElem (by omega)]
    rfl
  refine ru_set 5 (y := .t (natT (q.1 % 2))) sc_l_cells.nd (Py.eq (y_mod (i := (q.1 : Int)) (j := 2) (y_intI (yv 3) E.b_int) (yv 1) (by decide)) (by unfold natT; congr 1)) ?_
  refine ru_lput 2 (n := ((q.1 % 2 : Nat) : Int)) (j := q.1 % 2) (ts := b.map T.int) rfl (y_add (y_ixL (yl 2) (yv 5) (atI_nat hget)) (y_mul (yv 4) (y_add (yv 3) y_int) (.inr ⟨by omega, by omega⟩))) (yv 5) ?_ ?_
  · rw [List.length_map, hbl]
    have : q.1 % 2 = 0 ∨ q.1 % 2 = 1 := by omega
    rcases this with e | e <;> rw [e] <;> rfl
  · refine ru_forget 3 (ru_forget 4 (ru_forget 5 (ru_end ?_)))
    show _ = [_, _, Sl.own ((cellsStep b q).map T.int), _, _, _]
    unfold cellsStep
    rw [List.map_set]
    rfl
end
end Nine
set_option maxHeartbeats 1000000
/-! K9K1: the ROWs written by hand. -/
namespace Nine
open PySem PySem.Spec PyProof.Rows L2
def rOwn : Rw := ⟨abcS, ["a"], [⟨"mix", ["a"], "a"⟩], []⟩
def rSafe : Rw := ⟨abcS, ["a", "b"], [⟨"copy", ["a"], "c"⟩, ⟨"mix", ["c"], "a"⟩, ⟨"fix", ["a"], "b"⟩], [1]⟩
def rLate : Rw := ⟨abcS, ["a", "b"], [⟨"mix", ["b"], "a"⟩, ⟨"fix", ["a"], "c"⟩, ⟨"copy", ["c"], "b"⟩], []⟩
def rIdle : Rw := ⟨abcS, ["a"], [⟨"mix", ["b"], "b"⟩, ⟨"fix", ["c"], "a"⟩], []⟩
def rMade : Rw := ⟨abcS, ["b", "c"], [⟨"mix", ["a"], "b"⟩, ⟨"fix", ["b"], "c"⟩, ⟨"mix", ["a"], "b"⟩], []⟩
def rCut : Rw := ⟨abcS, ["b", "c"], [⟨"mix", ["a"], "b"⟩, ⟨"fix", ["b"], "c"⟩, ⟨"mix", ["a"], "b"⟩], [1]⟩
theorem hand_ok {wt : List Str} {ms : List Mv} {l : List Nat} (hw : wt = abcS.filter fun c => decide (c ∈ wt)) (h0 : 0 < ms.length) (h4 : ms.length ≤ 4) (hm : ∀ m ∈ ms, m.rd ∈ rdsL ∧ m.gl ∈ abcS ∧ m.nm ∈ nmsL ∧ (m.nm = "copy" → m.rd.length = 1)) (hl : l.Sublist (List.range' 1 (ms.length - 1))) : (Rw.mk abcS wt ms l).Ok where
  nd := abc_ok.1
  ck := abc_ok.2.1
  lc := abc_ok.2.2
  wc := hw
  mv := fun m h => by
    have q := hm m h
    obtain ⟨a, b, c⟩ := rds_ok _ q.1
    exact ⟨a, b, q.2.1, q.2.2.2, c, nms_ok _ q.2.2.1⟩
  pos := h0
  lm := h4
  asc := List.Pairwise.sublist hl List.pairwise_lt_range'
  mb := fun n h => by
    have := List.mem_range'_1.mp (hl.subset h)
    show 0 < n ∧ n < ms.length
    omega
def mvB (m : Mv) : Bool := decide (m.rd ∈ rdsL) && (decide (m.gl ∈ abcS) && (decide (m.nm ∈ nmsL) && (!decide (m.nm = "copy") || decide (m.rd.length = 1))))
theorem mvB_ok {ms : List Mv} (h : ms.all mvB = true) : ∀ m ∈ ms, m.rd ∈ rdsL ∧ m.gl ∈ abcS ∧ m.nm ∈ nmsL ∧ (m.nm = "copy" → m.rd.length = 1) := fun m hm => by
  have := List.all_eq_true.mp h m hm
  unfold mvB at this
  simp only [Bool.and_eq_true, Bool.or_eq_true, Bool.not_eq_true', decide_eq_true_eq, decide_eq_false_iff_not] at this
  obtain ⟨a, b, c, d⟩ := this
  exact ⟨a, b, c, fun z => d.resolve_left fun n => n z⟩
theorem ok_own : rOwn.Ok := hand_ok (by decide +kernel) (by decide) (by decide) (mvB_ok (by decide +kernel)) (List.nil_sublist _)
theorem ok_safe : rSafe.Ok := hand_ok (by decide +kernel) (by decide) (by decide) (mvB_ok (by decide +kernel)) (by decide)
theorem ok_late : rLate.Ok := hand_ok (by decide +kernel) (by decide) (by decide) (mvB_ok (by decide +kernel)) (List.nil_sublist _)
theorem ok_idle : rIdle.Ok := hand_ok (by decide +kernel) (by decide) (by decide) (mvB_ok (by decide +kernel)) (List.nil_sublist _)
theorem ok_made : rMade.Ok := hand_ok (by decide +kernel) (by decide) (by decide) (mvB_ok (by decide +kernel)) (List.nil_sublist _)
theorem ok_cut : rCut.Ok := hand_ok (by decide +kernel) (by decide) (by decide) (mvB_ok (by decide +kernel)) (by decide)
theorem hz_own : hazL rOwn = [((0, (("a" : Str), 0)) : Hz)] := by unfold hazL; rw [show hazRaw rOwn = [((0, (("a" : Str), 0)) : Hz)] by decide +kernel]; rfl
theorem hz_safe : hazL rSafe = [] := by unfold hazL; rw [show hazRaw rSafe = [] by decide +kernel]; rfl
theorem hz_late : hazL rLate = [((0, (("b" : Str), 2)) : Hz)] := by unfold hazL; rw [show hazRaw rLate = [((0, (("b" : Str), 2)) : Hz)] by decide +kernel]; rfl
theorem hz_idle : hazL rIdle = [] := by unfold hazL; rw [show hazRaw rIdle = [] by decide +kernel]; rfl
theorem hz_made : hazL rMade = [] := by unfold hazL; rw [show hazRaw rMade = [] by decide +kernel]; rfl
theorem hz_cut : hazL rCut = [((1, (("b" : Str), 2)) : Hz)] := by unfold hazL; rw [show hazRaw rCut = [((1, (("b" : Str), 2)) : Hz)] by decide +kernel]; rfl
theorem ls_own : (List.range rOwn.mv.length).filter (lostB rOwn) = [0] := by decide +kernel
theorem ls_safe : (List.range rSafe.mv.length).filter (lostB rSafe) = [] := by decide +kernel
theorem ls_late : (List.range rLate.mv.length).filter (lostB rLate) = [2] := by decide +kernel
theorem ls_idle : (List.range rIdle.mv.length).filter (lostB rIdle) = [] := by decide +kernel
theorem ls_made : (List.range rMade.mv.length).filter (lostB rMade) = [] := by decide +kernel
theorem ls_cut : (List.range rCut.mv.length).filter (lostB rCut) = [2] := by decide +kernel
def gE1 : T := .tup [.tup [.str "mix", .tup [.tup [.str "old", .str "a"]]]]
def gE2 : T := .tup [.tup [.str "mix", .tup [.tup [.str "spoilt", natT 0]]]]
def gFix : T := .tup [.str "fix", .tup [.tup [.str "mix", .tup [.tup [.str "spoilt", natT 0]]]]]
def gE3 : T := .tup [.tup [.str "mix", .tup [.tup [.str "spoilt", natT 0]]], gFix]
theorem en_own : T.tup (endL rOwn none) = gE1 := (eqv_pl _ _ (by decide +kernel) (by decide +kernel)).mp (by decide +kernel)
theorem en_own0 : T.tup (endL rOwn (some 0)) = gE2 := (eqv_pl _ _ (by decide +kernel) (by decide +kernel)).mp (by decide +kernel)
theorem en_late2 : T.tup (endL rLate (some 2)) = gE3 := (eqv_pl _ _ (by decide +kernel) (by decide +kernel)).mp (by decide +kernel)
end Nine
set_option maxHeartbeats 2000000
/-! K9K2: the law's examples by hand, walked (printed by gen_hand.py). -/
namespace Nine
open PySem PySem.Spec PyProof.Rows L2
/-- Ru, not unfolded -/
structure RuS (X : Cx) (sts : List Stmt) (ρ : List Sl) (D : De) : Prop where
  run : Ru X sts ρ D
section
variable {X : Cx} {e a1 a2 k1 k2 : Expr} {ρ : List Sl} {pos p' p2' : Pos} {rest : List Stmt} {D : De}
theorem s_set (i : Nat) {x : Str} {y : A4} (hN : X.N.Nodup) (he : PyN X e ρ y) (k : RuS X rest (ρ.set i (slA y)) D) (hi : X.N[i]? = some x := by rfl) (hx : Loc X.env.scope x := by first | exact Or.inl rfl | exact Or.inr rfl)
    (hf : X.fn x = true ∨ X.env.scope.names.lookup x = some .local := by first | exact .inl rfl | exact .inr rfl) (hs : swapsWith e (some (.Name x p')) pos.line X.env = pure false := by rfl) : RuS X (.Assign [.Name x p'] e pos :: rest) ρ D := ⟨ru_set i hN he k.run hi hx hf hs⟩
theorem s_append (i : Nat) {x : Str} {ts : List T} {t : T} {px pa_ pc : Pos} (hi : ρ[i]? = some (.own ts)) (he : Py X e ρ t) (k : RuS X rest (ρ.set i (.own (ts ++ [t]))) D) (hl : ts.length < 100000) (e1 : starEach [e] X.env = (false, eval e X.env) :: starEach [] X.env) (hN : X.N[i]? = some x := by rfl)
    (hv : Vis X.env.scope x := by first | exact Or.inl rfl | exact Or.inr (Or.inl rfl) | exact Or.inr (Or.inr rfl)) (hd : (x == ("__debug__" : Str)) = false := by decide) (hcd : (x == ("__classdict__" : Str)) = false := by decide)
    (hb : attributeBase (.Name x px) "append" X.env (eval (.Name x px) X.env) = eval (.Name x px) X.env := by rfl) (hline : (pa_.endLine == pc.line) = true := by rfl) :
    RuS X (.Expr (.Call (.Attribute (.Name x px) "append" pa_) [e] [] pc) pos :: rest) ρ D :=
  ⟨ru_append i hi he k.run hl hN hv hd hcd e1 hb (pe_bm PySem.F.plainAttrs_list PySem.F.slot_list_append PySem.F.type_list_append mt_append (pe_var hN hv hd hcd) (pa_cons pe_g pa_nil e1) hb (by rw [e1]; rfl) hline e1 rfl) rfl⟩
theorem s_dput (i : Nat) {x : Str} {kvs : List (Str × T)} {k : Str} {t : T} {px : Pos} (hu : X.A.units + 1 < cLine) (hi : ρ[i]? = some (.dic kvs)) (he : Py X e ρ t) (hk : Py X k1 ρ (.str k)) (q : RuS X rest (ρ.set i (.dic (dPut kvs k t))) D) (hl : kvs.length < 100000) (hN : X.N[i]? = some x := by rfl)
    (hv : Vis X.env.scope x := by first | exact Or.inl rfl | exact Or.inr (Or.inl rfl) | exact Or.inr (Or.inr rfl)) (hd : (x == ("__debug__" : Str)) = false := by decide) (hcd : (x == ("__classdict__" : Str)) = false := by decide)
    (hs : swapsWith e (some (.Subscript (.Name x px) k1 p')) pos.line X.env = pure false := by rfl) : RuS X (.Assign [.Subscript (.Name x px) k1 p'] e pos :: rest) ρ D := ⟨ru_dput i hu hi he hk q.run hl hN hv hd hcd hs⟩
theorem s_dput2 (i : Nat) {x : Str} {kvs : List (Str × T)} {x1 x2 : Str} {t1 t2 : T} {px py pt : Pos} {kt k9 : Nat} {pt2 : Pos} (hu : X.A.units + 1 < cLine) (hi : ρ[i]? = some (.dic kvs)) (h1 : Py X a1 ρ t1) (h2 : Py X a2 ρ t2) (hk1 : Py X k1 ρ (.str x1)) (hk2 : ∀ ρ', Py X k2 ρ' (.str x2))
    (q : RuS X rest (ρ.set i (.dic (dPut (dPut kvs x1 t1) x2 t2))) D) (hl : kvs.length < 90000) (hc : X.calm = true) (hN : X.N[i]? = some x := by rfl)
    (hps : PS X (.Assign [.Tuple [.Subscript (.Name x px) k1 p', .Subscript (.Name x py) k2 p2'] kt pt] (.Tuple [a1, a2] k9 pt2) pos) (tAsg (tTup (tCons (tG X a1) (tCons (tG X a2) tNil))) (gTup X.K 2 (gCons (gSub (tVar i) (tG X k1) rSetD) (gCons (gSub (tVar i) (tG X k2) rSetD) gNil)))) := by exact ps_asg (pe_tup (pa_cons pe_g (pa_cons pe_g pa_nil))) (pg_tup (n := 2) rfl (pgs_cons (pg_sub (pv _) pe_g (set_dict (by assumption))) (pgs_cons (pg_sub (pv _) pe_g (set_dict (by assumption))) pgs_nil)))) :
    RuS X (.Assign [.Tuple [.Subscript (.Name x px) k1 p', .Subscript (.Name x py) k2 p2'] kt pt] (.Tuple [a1, a2] k9 pt2) pos :: rest) ρ D := ⟨ru_dput2 i hu hi h1 h2 hk1 hk2 q.run hl hc hN hps⟩
theorem s_ret {x : A4} (he : PyN X e ρ x) (k : D.rt x) : RuS X (.Return (some e) pos :: rest) ρ D := ⟨ru_ret he k⟩
end
def lOwn : List T := [.tuf abcS, .tup [.str "a"], .tup [.tup [.str "mix", .tup [.str "a"], .str "a"]], .tup []]
theorem tf_Own : rOwn.tf = .tup lOwn := by simp [Rw.tf, rOwn, lOwn, Mv.t, natT]
def lSafe : List T := [.tuf abcS, .tup [.str "a", .str "b"], .tup [.tup [.str "copy", .tup [.str "a"], .str "c"], .tup [.str "mix", .tup [.str "c"], .str "a"], .tup [.str "fix", .tup [.str "a"], .str "b"]], .tup [.int 1]]
theorem tf_Safe : rSafe.tf = .tup lSafe := by simp [Rw.tf, rSafe, lSafe, Mv.t, natT]
def lLate : List T := [.tuf abcS, .tup [.str "a", .str "b"], .tup [.tup [.str "mix", .tup [.str "b"], .str "a"], .tup [.str "fix", .tup [.str "a"], .str "c"], .tup [.str "copy", .tup [.str "c"], .str "b"]], .tup []]
theorem tf_Late : rLate.tf = .tup lLate := by simp [Rw.tf, rLate, lLate, Mv.t, natT]
def lIdle : List T := [.tuf abcS, .tup [.str "a"], .tup [.tup [.str "mix", .tup [.str "b"], .str "b"], .tup [.str "fix", .tup [.str "c"], .str "a"]], .tup []]
theorem tf_Idle : rIdle.tf = .tup lIdle := by simp [Rw.tf, rIdle, lIdle, Mv.t, natT]
def lMade : List T := [.tuf abcS, .tup [.str "b", .str "c"], .tup [.tup [.str "mix", .tup [.str "a"], .str "b"], .tup [.str "fix", .tup [.str "b"], .str "c"], .tup [.str "mix", .tup [.str "a"], .str "b"]], .tup []]
theorem tf_Made : rMade.tf = .tup lMade := by simp [Rw.tf, rMade, lMade, Mv.t, natT]
def lCut : List T := [.tuf abcS, .tup [.str "b", .str "c"], .tup [.tup [.str "mix", .tup [.str "a"], .str "b"], .tup [.str "fix", .tup [.str "b"], .str "c"], .tup [.str "mix", .tup [.str "a"], .str "b"]], .tup [.int 1]]
theorem tf_Cut : rCut.tf = .tup lCut := by simp [Rw.tf, rCut, lCut, Mv.t, natT]
def rowsR : List Rw := [rOwn, rSafe, rLate, rIdle, rMade, rCut]
theorem rows_ok : ∀ r ∈ rowsR, r.Ok := by
  unfold rowsR
  intro r hr
  simp only [List.mem_cons, List.not_mem_nil, or_false] at hr
  rcases hr with rfl | rfl | rfl | rfl | rfl | rfl
  · exact ok_own
  · exact ok_safe
  · exact ok_late
  · exact ok_idle
  · exact ok_made
  · exact ok_cut
def fH (r : Rw) : T := .tup ((hazL r).map hzT)
def fK (r : Rw) : T := .bl (decide ((hazL r).length = 0))
def fL (r : Rw) : T := .tup (((List.range r.mv.length).filter (lostB r)).map natT)
def ggH : T := .lst [.tup [.tup [.int 0, .str "a", .int 0]], .tup [], .tup [.tup [.int 0, .str "b", .int 2]], .tup [], .tup [], .tup [.tup [.int 1, .str "b", .int 2]]]
def ggK : T := .lst [.bl false, .bl true, .bl false, .bl true, .bl true, .bl false]
def ggL : T := .lst [.tup [.int 0], .tup [], .tup [.int 2], .tup [], .tup [], .tup [.int 2]]
theorem eq_H : T.lst (rowsR.map fH) = ggH := by
  simp only [rowsR, List.map_cons, List.map_nil, fH, hz_own, hz_safe, hz_late, hz_idle, hz_made, hz_cut, hzT, natT, ggH]
  rfl
theorem eq_K : T.lst (rowsR.map fK) = ggK := by
  simp only [rowsR, List.map_cons, List.map_nil, fK, hz_own, hz_safe, hz_late, hz_idle, hz_made, hz_cut, ggK]
  rfl
theorem eq_L : T.lst (rowsR.map fL) = ggL := by
  simp only [rowsR, List.map_cons, List.map_nil, fL, ls_own, ls_safe, ls_late, ls_idle, ls_made, ls_cut, natT, ggL]
  rfl
def hFl : Fl := [⟨"ann", "old", [0]⟩, ⟨"bob", "old", [2, 5]⟩, ⟨"cy", "new", [3]⟩, ⟨"dan", "new", [4, 6]⟩]
theorem hFl_ok : FlP hFl where
  nm := ⟨4, by decide, by decide, rfl⟩
  dev := by
    unfold hFl
    intro d hd
    simp only [List.mem_cons, List.not_mem_nil, or_false] at hd
    rcases hd with rfl | rfl | rfl | rfl
    · exact ⟨by decide +kernel, [0], by decide +kernel, by decide, by decide, by decide⟩
    · exact ⟨by decide +kernel, [2, 5], by decide +kernel, by decide, by decide, by decide⟩
    · exact ⟨by decide +kernel, [3], by decide +kernel, by decide, by decide, by decide⟩
    · exact ⟨by decide +kernel, [4, 6], by decide +kernel, by decide, by decide, by decide⟩
theorem hTm1 : TmRow hFl [0, 2, 3, 4] := .cons (by decide) (.cons (by decide) (.cons (by decide) (.cons (by decide) .nil)))
theorem hTm2 : TmRow hFl [0, 5, 3, 6] := .cons (by decide) (.cons (by decide) (.cons (by decide) (.cons (by decide) .nil)))
theorem hCls : clsL hFl = [("new" : Str), "old"] := by decide +kernel
def tHost : T := .tup [.tup [.str "ann", .str "old", .tup [.int 0]], .tup [.str "bob", .str "old", .tup [.int 2, .int 5]], .tup [.str "cy", .str "new", .tup [.int 3]], .tup [.str "dan", .str "new", .tup [.int 4, .int 6]]]
theorem eq_host : flT hFl = tHost := by simp [flT, hFl, Dev.t, natT, tHost]
/-- what fleet_right asks -/
theorem hand_fleet {bs ls : List Nat} {ro1 ro2 : Rw} {kvs : List (Str × T)} (hb : TmRow hFl bs) (hl : ls.length = 4) (h9 : ∀ x ∈ ls, 1 ≤ x ∧ x ≤ 9) (o1 : ro1.Ok) (o2 : ro2.Ok) (g1 : dGet kvs "old" = some ro1.tf) (g2 : dGet kvs "new" = some ro2.tf) :
    r_fleet_right [.t tHost, .t (natsT bs), .t (natsT ls), .d kvs] (.t (.bl true)) := by
  obtain ⟨a1', a2, a3, a4⟩ := mk_tm hb (ls := ls) hl
  refine ⟨mkTm hFl bs ls, fun c => if c = "old" then ro1 else ro2, kvs, tm_ok hFl_ok hb hl h9, fun z => ?_, ?_, ?_, rfl⟩
  · have e : flOf (mkTm hFl bs ls) = [] := by rw [z]; rfl
    rw [a1'] at e
    cases e
  · rw [a1', hCls]
    intro c hc
    simp only [List.mem_cons, List.not_mem_nil, or_false] at hc
    have hne : ¬ (("new" : Str) = "old") := by decide +kernel
    rcases hc with rfl | rfl
    · refine ⟨by decide +kernel, ?_, ?_⟩
      · show (if ("new" : Str) = "old" then ro1 else ro2).Ok
        rw [if_neg hne]; exact o2
      · show dGet kvs "new" = some (if ("new" : Str) = "old" then ro1 else ro2).tf
        rw [if_neg hne]; exact g2
    · refine ⟨by decide +kernel, ?_, ?_⟩
      · show (if ("old" : Str) = "old" then ro1 else ro2).Ok
        rw [if_pos rfl]; exact o1
      · show dGet kvs "old" = some (if ("old" : Str) = "old" then ro1 else ro2).tf
        rw [if_pos rfl]; exact g1
  · show _ = [A4.t (flT (flOf (mkTm hFl bs ls))), A4.t (.tup (((mkTm hFl bs ls).map fun p => p.2.1).map natT)), A4.t (.tup (((mkTm hFl bs ls).map fun p => p.2.2).map natT)), A4.d kvs]
    rw [a1', a2, a3, eq_host]
    rfl
def kv1 : List (Str × T) := dPut (dPut (dPut [] "old" (.tup lOwn)) "new" (.tup lSafe)) "mid" (.tup lSafe)
def kv2 : List (Str × T) := dPut kv1 "new" (.tup lCut)
def kv3 : List (Str × T) := dPut (dPut kv2 "old" (.tup lMade)) "new" (.tup lIdle)
theorem kn1 : ¬ (("old" : Str) = "mid") ∧ ¬ (("new" : Str) = "mid") ∧ ¬ (("old" : Str) = "new") ∧ ¬ (("new" : Str) = "old") := by decide +kernel
theorem k1o : dGet kv1 "old" = some rOwn.tf := by unfold kv1; rw [dGet_put, if_neg kn1.1, dGet_put, if_neg kn1.2.2.1, dGet_put, if_pos rfl, tf_Own]
theorem k1n : dGet kv1 "new" = some rSafe.tf := by unfold kv1; rw [dGet_put, if_neg kn1.2.1, dGet_put, if_pos rfl, tf_Safe]
theorem k2o : dGet kv2 "old" = some rOwn.tf := by unfold kv2; rw [dGet_put, if_neg kn1.2.2.1, k1o]
theorem k2n : dGet kv2 "new" = some rCut.tf := by unfold kv2; rw [dGet_put, if_pos rfl, tf_Cut]
theorem k3o : dGet kv3 "old" = some rMade.tf := by unfold kv3; rw [dGet_put, if_neg kn1.2.2.1, dGet_put, if_pos rfl, tf_Made]
theorem k3n : dGet kv3 "new" = some rIdle.tf := by unfold kv3; rw [dGet_put, if_pos rfl, tf_Idle]
theorem kv1_len : kv1.length ≤ 10 := by
  unfold kv1
  have h1 := len_put (kvs := []) (k := "old") (t := .tup lOwn)
  have h2 := len_put (kvs := dPut [] "old" (.tup lOwn)) (k := "new") (t := .tup lSafe)
  have h3 := len_put (kvs := dPut (dPut [] "old" (.tup lOwn)) "new" (.tup lSafe)) (k := "mid") (t := .tup lSafe)
  simp only [List.length_nil] at h1
  omega
theorem kv2_len : kv2.length ≤ 11 := by
  have := kv1_len
  have := len_put (kvs := kv1) (k := "new") (t := .tup lCut)
  unfold kv2
  omega
def r_by_hand (as : List A4) (r : A4) : Prop := as = [] ∧ r = .t (.bl true)
section
variable {P : Program} {w : World} {K : PySem.W.Frag} {mg : Str → Option Value} {base : Heap}
theorem ok_by_hand (E : E9 K mg) {k : Nat} (G1 : Ok9 P w base k E.f_hazards r_hazards) (G2 : Ok9 P w base k E.f_keeps r_keeps) (G3 : Ok9 P w base k E.f_losses_against r_losses) (G4 : Ok9 P w base k E.f_end_of r_end_of) (G5 : Ok9 P w base k E.f_l_line_right r_line_right)
    (G6 : Ok9 P w base k E.f_l_fleet_right r_fleet_right) (G7 : Ok9 P w base k E.f_l_same (r_same 60)) : Ok9 P w base (k + 1) E.f_l_by_hand_right r_by_hand := ok9 sc_l_by_hand_right fun cdv A outer s H Ex as r hr hl h => by
  obtain ⟨rfl, rfl⟩ := h
  refine RuS.run ?_
  have nd := sc_l_by_hand_right.nd
  -- cells 0, own 1, safe 2, late 3, idle 4, made 5, cut 6, rows 7, has 8, goal 9, fix 10, host 11, lines 12, own 13
  refine s_set 0 (y := .t (.tuf abcS)) nd (y_tupF (l := abcS) (b_cons y_str (b_cons y_str (b_cons y_str b_nil)))) ?_
  refine s_set 1 (y := .t (.tup lOwn)) nd ?q1 ?_
  case q1 =>
      unfold lOwn
      refine y_tup (b_cons (yv 0) ?_ se_N) (by decide)
      repeat' first
        | with_reducible exact b_nil
        | with_reducible exact y_str
        | with_reducible exact y_int
        | with_reducible exact y_bl
        | with_reducible refine y_tup ?_ ?_
        | with_reducible refine y_lst ?_ ?_
        | with_reducible refine Py.lst ?_
        | with_reducible refine b_cons ?_ ?_ ?_
        | with_reducible exact se_C
        | with_reducible exact se_T
        | with_reducible exact se_L
        | decide
  refine s_set 2 (y := .t (.tup lSafe)) nd ?q2 ?_
  case q2 =>
      unfold lSafe
      refine y_tup (b_cons (yv 0) ?_ se_N) (by decide)
      repeat' first
        | with_reducible exact b_nil
        | with_reducible exact y_str
        | with_reducible exact y_int
        | with_reducible exact y_bl
        | with_reducible refine y_tup ?_ ?_
        | with_reducible refine y_lst ?_ ?_
        | with_reducible refine Py.lst ?_
        | with_reducible refine b_cons ?_ ?_ ?_
        | with_reducible exact se_C
        | with_reducible exact se_T
        | with_reducible exact se_L
        | decide
  refine s_set 3 (y := .t (.tup lLate)) nd ?q3 ?_
  case q3 =>
      unfold lLate
      refine y_tup (b_cons (yv 0) ?_ se_N) (by decide)
      repeat' first
        | with_reducible exact b_nil
        | with_reducible exact y_str
        | with_reducible exact y_int
        | with_reducible exact y_bl
        | with_reducible refine y_tup ?_ ?_
        | with_reducible refine y_lst ?_ ?_
        | with_reducible refine Py.lst ?_
        | with_reducible refine b_cons ?_ ?_ ?_
        | with_reducible exact se_C
        | with_reducible exact se_T
        | with_reducible exact se_L
        | decide
  refine s_set 4 (y := .t (.tup lIdle)) nd ?q4 ?_
  case q4 =>
      unfold lIdle
      refine y_tup (b_cons (yv 0) ?_ se_N) (by decide)
      repeat' first
        | with_reducible exact b_nil
        | with_reducible exact y_str
        | with_reducible exact y_int
        | with_reducible exact y_bl
        | with_reducible refine y_tup ?_ ?_
        | with_reducible refine y_lst ?_ ?_
        | with_reducible refine Py.lst ?_
        | with_reducible refine b_cons ?_ ?_ ?_
        | with_reducible exact se_C
        | with_reducible exact se_T
        | with_reducible exact se_L
        | decide
  refine s_set 5 (y := .t (.tup lMade)) nd ?q5 ?_
  case q5 =>
      unfold lMade
      refine y_tup (b_cons (yv 0) ?_ se_N) (by decide)
      repeat' first
        | with_reducible exact b_nil
        | with_reducible exact y_str
        | with_reducible exact y_int
        | with_reducible exact y_bl
        | with_reducible refine y_tup ?_ ?_
        | with_reducible refine y_lst ?_ ?_
        | with_reducible refine Py.lst ?_
        | with_reducible refine b_cons ?_ ?_ ?_
        | with_reducible exact se_C
        | with_reducible exact se_T
        | with_reducible exact se_L
        | decide
  refine s_set 6 (y := .t (.tup lCut)) nd ?q6 ?_
  case q6 =>
    refine Py.eq (y_catT (ts := cutT lMade none (some 3)) (us := [.tup [.int 1]]) (y_slT (yv 5) .no (.at y_int)) (y_tup (b_cons (y_tup (b_cons y_int b_nil)) b_nil)) ?_) ?_
    · rw [show (some (3 : Int)) = some ((3 : Nat) : Int) from rfl, cut_take]
      decide
    · rw [show (some (3 : Int)) = some ((3 : Nat) : Int) from rfl, cut_take]
      rfl
  refine s_set 7 (y := .t (.tup (rowsR.map Rw.tf))) nd ?q7 ?_
  case q7 =>
    refine Py.eq (y_tup (b_cons (yv 1) (b_cons (yv 2) (b_cons (yv 3) (b_cons (yv 4) (b_cons (yv 5) (b_cons (yv 6) b_nil))))))) ?_
    simp only [rowsR, List.map_cons, List.map_nil, tf_Own, tf_Safe, tf_Late, tf_Idle, tf_Made, tf_Cut]
  have comp : ∀ {X : Cx}, True := trivial
  refine s_set 8 (y := .s [ggH, ggK]) nd ?q8 ?_
  case q8 =>
    refine y_lst (b_cons (Py.eq (Py.lst ?c1) eq_H) (b_cons (Py.eq (Py.lst ?c2) eq_K) b_nil se_LC) se_LC) (by decide)
    case c1 =>
      exact y_lm (own := [("_law_own", 13)]) rowsR Rw.tf fH [13] rfl nd ((i_tup (yv 7)).c) (blkOk_by (N := n_l_by_hand_right) (sc := defScope s_l_by_hand_right) (by decide +kernel)) (by decide)
        fun rw hrw => ⟨_, fun s H C cl fp => ⟨g_name 13 nd, y_callT (f := E.f_hazards) G1 hr (a1 (Py.rt (yv 13))) ⟨rw, rows_ok rw hrw, haz_len (rows_ok rw hrw), rfl, rfl⟩⟩⟩
    case c2 =>
      exact y_lm (own := [("_law_own", 13)]) rowsR Rw.tf fK [13] rfl nd ((i_tup (yv 7)).c) (blkOk_by (N := n_l_by_hand_right) (sc := defScope s_l_by_hand_right) (by decide +kernel)) (by decide)
        fun rw hrw => ⟨_, fun s H C cl fp => ⟨g_name 13 nd, y_callT (f := E.f_keeps) G2 hr (a1 (Py.rt (yv 13))) ⟨rw, rows_ok rw hrw, haz_len (rows_ok rw hrw), rfl, rfl⟩⟩⟩
  refine s_append 8 (t := ggL) rfl (Py.eq (Py.lst ?c3) eq_L) ?_ (by decide) se_LC
  case c3 =>
    exact y_lm (own := [("_law_own", 13)]) rowsR Rw.tf fL [13] rfl nd ((i_tup (yv 7)).c) (blkOk_by (N := n_l_by_hand_right) (sc := defScope s_l_by_hand_right) (by decide +kernel)) (by decide)
      fun rw hrw => ⟨_, fun s H C cl fp => ⟨g_name 13 nd, y_callT (f := E.f_losses_against) G3 hr (a1 (yv 13)) ⟨rw, rows_ok rw hrw, rfl, rfl⟩⟩⟩
  refine s_set 9 (y := .s [ggH]) nd ?q9 ?_
  case q9 =>
      unfold ggH
      repeat' first
        | with_reducible exact b_nil
        | with_reducible exact y_str
        | with_reducible exact y_int
        | with_reducible exact y_bl
        | with_reducible refine y_tup ?_ ?_
        | with_reducible refine y_lst ?_ ?_
        | with_reducible refine Py.lst ?_
        | with_reducible refine b_cons ?_ ?_ ?_
        | with_reducible exact se_C
        | with_reducible exact se_T
        | with_reducible exact se_L
        | decide
  refine s_set 9 (y := .s ([ggH] ++ [ggK])) nd ?qA ?_
  case qA =>
    with_reducible refine y_catL ?o (PyN.o ?b) ?l
    case o => exact yo 9
    case l => decide
    case b =>
      unfold ggK
      repeat' first
        | with_reducible exact b_nil
        | with_reducible exact y_str
        | with_reducible exact y_int
        | with_reducible exact y_bl
        | with_reducible refine y_tup ?_ ?_
        | with_reducible refine y_lst ?_ ?_
        | with_reducible refine Py.lst ?_
        | with_reducible refine b_cons ?_ ?_ ?_
        | with_reducible exact se_C
        | with_reducible exact se_T
        | with_reducible exact se_L
        | decide
  refine s_append 9 (t := ggL) rfl ?qB ?_ (by decide) se_L
  case qB =>
      unfold ggL
      repeat' first
        | with_reducible exact b_nil
        | with_reducible exact y_str
        | with_reducible exact y_int
        | with_reducible exact y_bl
        | with_reducible refine y_tup ?_ ?_
        | with_reducible refine y_lst ?_ ?_
        | with_reducible refine Py.lst ?_
        | with_reducible refine b_cons ?_ ?_ ?_
        | with_reducible exact se_C
        | with_reducible exact se_T
        | with_reducible exact se_L
        | decide
  refine s_set 8 (y := .s (([ggH, ggK] ++ [ggL]) ++ [gE1, gE2, gE3])) nd ?qC ?_
  case qC =>
    with_reducible refine y_catL ?o (PyN.o ?b) ?l
    case o => exact yo 8
    case l => decide
    case b =>
      with_reducible refine y_lst ?bb ?ll
      case ll => decide
      case bb =>
        with_reducible refine b_cons ?e1 (b_cons ?e2 (b_cons ?e3 b_nil se_F) se_F) se_F
        case e1 => exact Py.eq (y_callT (t := .tup (endL rOwn none)) (f := E.f_end_of) G4 hr (a_cons (Py.eq (yv 1) tf_Own.symm) (a1 (x := .t (pT none)) (y_tup b_nil))) ⟨rOwn, none, ok_own, (fun _ z => nomatch z), rfl, rfl⟩) en_own
        case e2 => exact Py.eq (y_callT (t := .tup (endL rOwn (some 0))) (f := E.f_end_of) G4 hr (a_cons (Py.eq (yv 1) tf_Own.symm) (a1 (x := .t (pT (some 0))) (y_tup (b_cons y_int b_nil)))) ⟨rOwn, some 0, ok_own, (fun _ z => by cases z; decide), rfl, rfl⟩) en_own0
        case e3 => exact Py.eq (y_callT (t := .tup (endL rLate (some 2))) (f := E.f_end_of) G4 hr (a_cons (Py.eq (yv 3) tf_Late.symm) (a1 (x := .t (pT (some 2))) (y_tup (b_cons y_int b_nil)))) ⟨rLate, some 2, ok_late, (fun _ z => by cases z; decide), rfl, rfl⟩) en_late2
  refine s_set 10 (y := .t gFix) nd ?qD ?_
  case qD =>
      show Py _ _ _ (.tup [.str "fix", .tup [.tup [.str "mix", .tup [.tup [.str "spoilt", .int 0]]]]])
      repeat' first
        | with_reducible exact b_nil
        | with_reducible exact y_str
        | with_reducible exact y_int
        | with_reducible exact y_bl
        | with_reducible refine y_tup ?_ ?_
        | with_reducible refine y_lst ?_ ?_
        | with_reducible refine Py.lst ?_
        | with_reducible refine b_cons ?_ ?_ ?_
        | with_reducible exact se_C
        | with_reducible exact se_T
        | with_reducible exact se_L
        | decide
  refine s_set 9 (y := .s ((([ggH] ++ [ggK]) ++ [ggL]) ++ [gE1, gE2])) nd ?qF ?_
  case qF =>
    with_reducible refine y_catL ?o (PyN.o ?b) ?l
    case o => exact yo 9
    case l => decide
    case b =>
      show PyL _ _ _ [.tup [.tup [.str "mix", .tup [.tup [.str "old", .str "a"]]]], .tup [.tup [.str "mix", .tup [.tup [.str "spoilt", .int 0]]]]]
      repeat' first
        | with_reducible exact b_nil
        | with_reducible exact y_str
        | with_reducible exact y_int
        | with_reducible exact y_bl
        | with_reducible refine y_tup ?_ ?_
        | with_reducible refine y_lst ?_ ?_
        | with_reducible refine Py.lst ?_
        | with_reducible refine b_cons ?_ ?_ ?_
        | with_reducible exact se_C
        | with_reducible exact se_T
        | with_reducible exact se_L
        | decide
  refine s_set 9 (y := .s (((([ggH] ++ [ggK]) ++ [ggL]) ++ [gE1, gE2]) ++ [gE3])) nd ?qG ?_
  case qG =>
    with_reducible refine y_catL ?o (PyN.o ?b) ?l
    case o => exact yo 9
    case l => decide
    case b =>
      show PyL _ _ _ [.tup [.tup [.str "mix", .tup [.tup [.str "spoilt", .int 0]]], gFix]]
      with_reducible refine y_lst (b_cons (y_tup (b_cons ?_ (b_cons ?zz b_nil se_N) se_T) ?_) b_nil se_T) ?_
      case zz => exact yv 10
      repeat' first
        | with_reducible exact b_nil
        | with_reducible exact y_str
        | with_reducible exact y_int
        | with_reducible exact y_bl
        | with_reducible refine y_tup ?_ ?_
        | with_reducible refine y_lst ?_ ?_
        | with_reducible refine Py.lst ?_
        | with_reducible refine b_cons ?_ ?_ ?_
        | with_reducible exact se_C
        | with_reducible exact se_T
        | with_reducible exact se_L
        | decide
  refine s_set 8 (y := .s ((([ggH, ggK] ++ [ggL]) ++ [gE1, gE2, gE3]) ++ List.replicate 6 (.bl true))) nd ?qH ?_
  case qH =>
    with_reducible refine y_catL ?o (PyN.o ?b) ?l
    case o => exact yo 8
    case l => decide
    case b =>
      exact PyL.eq (y_lm (own := [("_law_own", 13)]) rowsR Rw.tf (fun _ => .bl true) [13] rfl nd ((i_tup (yv 7)).c) (blkOk_by (N := n_l_by_hand_right) (sc := defScope s_l_by_hand_right) (by decide +kernel)) (by decide)
        fun rw hrw => ⟨_, fun s H C cl fp => ⟨g_name 13 nd, y_callT (f := E.f_l_line_right) G5 hr (a1 (yv 13)) ⟨rw, rows_ok rw hrw, rfl, rfl⟩⟩⟩) rfl
  refine s_set 9 (y := .s ((((([ggH] ++ [ggK]) ++ [ggL]) ++ [gE1, gE2]) ++ [gE3]) ++ List.replicate 6 (.bl true))) nd ?qP ?_
  case qP =>
    with_reducible refine y_catL ?o (PyN.o ?b) ?l
    case o => exact yo 9
    case l => decide
    case b =>
      exact y_repL (k := 6) (y_lst (b_cons y_bl b_nil)) y_int (by decide)
  refine s_set 11 (y := .t tHost) nd ?qI ?_
  case qI =>
      show Py _ _ _ tHost
      unfold tHost
      repeat' first
        | with_reducible exact b_nil
        | with_reducible exact y_str
        | with_reducible exact y_int
        | with_reducible exact y_bl
        | with_reducible refine y_tup ?_ ?_
        | with_reducible refine y_lst ?_ ?_
        | with_reducible refine Py.lst ?_
        | with_reducible refine b_cons ?_ ?_ ?_
        | with_reducible exact se_C
        | with_reducible exact se_T
        | with_reducible exact se_L
        | decide
  refine s_set 12 (y := .d kv1) nd ?qJ0 ?_
  case qJ0 => exact y_dict3 y_str (yv 1) y_str (yv 2) y_str (yv 2)
  refine s_set 8 (y := .s (((([ggH, ggK] ++ [ggL]) ++ [gE1, gE2, gE3]) ++ List.replicate 6 (.bl true)) ++ [.bl true])) nd ?qJ ?_
  case qJ =>
    with_reducible refine y_catL ?o (PyN.o ?b) ?l
    case o => exact yo 8
    case l => decide
    case b =>
      with_reducible refine y_lst (b_cons ?f b_nil se_F) ?l2
      case l2 => decide
      case f =>
        have tb : ∀ {X : Cx} {ρ : List Sl} {p0 p1 p2 p3 pp : Pos} {k0 k1 k2 k3 kk : Nat}, Py X (.Tuple [.Constant (.int 0) k0 p0, .Constant (.int 2) k1 p1, .Constant (.int 3) k2 p2, .Constant (.int 4) k3 p3] kk pp) ρ (natsT [0, 2, 3, 4]) := y_tup (b_cons y_int (b_cons y_int (b_cons y_int (b_cons y_int b_nil))))
        have tl : ∀ {X : Cx} {ρ : List Sl} {p0 p1 p2 p3 pp : Pos} {k0 k1 k2 k3 kk : Nat}, Py X (.Tuple [.Constant (.int 3) k0 p0, .Constant (.int 3) k1 p1, .Constant (.int 3) k2 p2, .Constant (.int 3) k3 p3] kk pp) ρ (natsT [3, 3, 3, 3]) := y_tup (b_cons y_int (b_cons y_int (b_cons y_int (b_cons y_int b_nil))))
        exact y_callT (t := .bl true) (f := E.f_l_fleet_right) G6 hr (a_cons (yv 11) (a_cons (x := .t (natsT [0, 2, 3, 4])) tb (a_cons (x := .t (natsT [3, 3, 3, 3])) tl (a1 (yd 12))))) (hand_fleet hTm1 rfl (by decide) ok_own ok_safe k1o k1n)
  refine s_dput 12 (kvs := kv1) (k := "new") (t := .tup lCut) (u1 hr) rfl ?qj1 ?qj2 ?_ (by have := kv1_len; omega)
  case qj1 => exact yv 6
  case qj2 => exact y_str
  refine s_set 8 (y := .s ((((([ggH, ggK] ++ [ggL]) ++ [gE1, gE2, gE3]) ++ List.replicate 6 (.bl true)) ++ [.bl true]) ++ [.bl true])) nd ?qK ?_
  case qK =>
    with_reducible refine y_catL ?o (PyN.o ?b) ?l
    case o => exact yo 8
    case l => decide
    case b =>
      with_reducible refine y_lst (b_cons ?f b_nil se_F) ?l2
      case l2 => decide
      case f =>
        have tb : ∀ {X : Cx} {ρ : List Sl} {p0 p1 p2 p3 pp : Pos} {k0 k1 k2 k3 kk : Nat}, Py X (.Tuple [.Constant (.int 0) k0 p0, .Constant (.int 5) k1 p1, .Constant (.int 3) k2 p2, .Constant (.int 6) k3 p3] kk pp) ρ (natsT [0, 5, 3, 6]) := y_tup (b_cons y_int (b_cons y_int (b_cons y_int (b_cons y_int b_nil))))
        have tl : ∀ {X : Cx} {ρ : List Sl} {p0 p1 p2 p3 pp : Pos} {k0 k1 k2 k3 kk : Nat}, Py X (.Tuple [.Constant (.int 9) k0 p0, .Constant (.int 9) k1 p1, .Constant (.int 1) k2 p2, .Constant (.int 1) k3 p3] kk pp) ρ (natsT [9, 9, 1, 1]) := y_tup (b_cons y_int (b_cons y_int (b_cons y_int (b_cons y_int b_nil))))
        exact y_callT (t := .bl true) (f := E.f_l_fleet_right) G6 hr (a_cons (yv 11) (a_cons (x := .t (natsT [0, 5, 3, 6])) tb (a_cons (x := .t (natsT [9, 9, 1, 1])) tl (a1 (yd 12))))) (hand_fleet hTm2 rfl (by decide) ok_own ok_cut k2o k2n)
  have hu1 := u1 hr
  refine s_dput2 12 (kvs := kv2) (x1 := "old") (x2 := "new") (t1 := .tup lMade) (t2 := .tup lIdle) hu1 rfl ?qj3 ?qj4 ?qj5 ?qj6 ?_ (by have := kv2_len; omega) rfl
  case qj3 => exact yv 5
  case qj4 => exact yv 4
  case qj5 => exact y_str
  case qj6 => exact fun ρ' => y_str
  refine s_ret (x := .t (.bl true)) (y_callT (t := .bl true) (f := E.f_l_same) G7 hr (a_cons (x := .s (((((([ggH, ggK] ++ [ggL]) ++ [gE1, gE2, gE3]) ++ List.replicate 6 (.bl true)) ++ [.bl true]) ++ [.bl true]) ++ [.bl true])) (PyN.arg ?qL) (a1 (x := .s (((((([ggH, ggK] ++ [ggL]) ++ [gE1, gE2, gE3]) ++ List.replicate 6 (.bl true)) ++ [.bl true]) ++ [.bl true]) ++ [.bl true])) (PyN.arg ?qM) se_B) se_B) ⟨_, ?qN, ?qO, rfl, rfl⟩ (he := se_B) (hpl := by rw [se_B]; rfl)) rfl
  case qL =>
    with_reducible refine y_catL ?o (PyN.o ?b) ?l
    case o => exact yo 8
    case l => decide
    case b =>
      with_reducible refine y_lst (b_cons ?f b_nil se_F) ?l2
      case l2 => decide
      case f =>
        have tb : ∀ {X : Cx} {ρ : List Sl} {p0 p1 p2 p3 pp : Pos} {k0 k1 k2 k3 kk : Nat}, Py X (.Tuple [.Constant (.int 0) k0 p0, .Constant (.int 2) k1 p1, .Constant (.int 3) k2 p2, .Constant (.int 4) k3 p3] kk pp) ρ (natsT [0, 2, 3, 4]) := y_tup (b_cons y_int (b_cons y_int (b_cons y_int (b_cons y_int b_nil))))
        have tl : ∀ {X : Cx} {ρ : List Sl} {p0 p1 p2 p3 pp : Pos} {k0 k1 k2 k3 kk : Nat}, Py X (.Tuple [.Constant (.int 3) k0 p0, .Constant (.int 3) k1 p1, .Constant (.int 3) k2 p2, .Constant (.int 3) k3 p3] kk pp) ρ (natsT [3, 3, 3, 3]) := y_tup (b_cons y_int (b_cons y_int (b_cons y_int (b_cons y_int b_nil))))
        exact y_callT (t := .bl true) (f := E.f_l_fleet_right) G6 hr (a_cons (yv 11) (a_cons (x := .t (natsT [0, 2, 3, 4])) tb (a_cons (x := .t (natsT [3, 3, 3, 3])) tl (a1 (yd 12))))) (hand_fleet hTm1 rfl (by decide) ok_made ok_idle k3o k3n)
  case qM =>
    refine PyL.eq (x := ((((([ggH] ++ [ggK]) ++ [ggL]) ++ [gE1, gE2]) ++ [gE3]) ++ List.replicate 6 (.bl true)) ++ List.replicate 3 (.bl true)) ?_ rfl
    with_reducible refine y_catL ?o (PyN.o ?b) ?l
    case o => exact yo 9
    case l => decide
    case b => exact y_repL (k := 3) (y_lst (b_cons y_bl b_nil)) y_int (by decide)
  case qN =>
    simp only [A4.smA, List.cons_append, List.nil_append, List.replicate, T.smTs, T.smT, ggH, ggK, ggL, gE1, gE2, gE3, gFix, natT, and_true, true_and]
  case qO => decide +kernel
end
end Nine
set_option maxHeartbeats 1000000
/-! K9All: every def by its promise, the law last (printed by gen_all.py). -/
namespace Nine
open PySem PySem.Spec PyProof.Rows L2
def spLaw (K : PySem.W.Frag) : L2.Sp := fun vs H Q _ => ∃ (a : Addr) (ns : List Int), vs = [.ref a] ∧ SqL K H a (ns.map V.int) ∧ ns.length ≤ 63 ∧ ∀ H', Q (.bl true) H'
section
variable {P : Program} {w : World} {K : PySem.W.Frag} {mg : Str → Option Value} {base : Heap}
theorem ok_law {fa : Addr} {fd : FuncData} (E : E9 K mg) {k : Nat} (F : Fun K "law" "law" s_law fa fd) (G1 : Ok9 P w base k E.f_l_by_hand_right r_by_hand) (G2 : Ok9 P w base k E.f_l_cells r_cells) (G3 : OkU P w base k E.f_l_right r_right) (G4 : Ok9 P w base k E.f_l_box r_box) :
    FnOk P w K mg base CX0 (k + 1) fa fd ["_law_script"] (spLaw K) := by
  refine F.ok sc_law (fun vs H Q E h => ?_) fun cdv A outer s H vs Q Ex hr h => ?_
  · obtain ⟨a, ns, rfl, _⟩ := h
    rfl
  · obtain ⟨a, ns, rfl, hS, h63, q⟩ := h
    have st : StR K H H (L2.start n_law [.ref a]) H (startR n_law [.s (ns.map T.int)]) := start_ok (as := [.s (ns.map T.int)]) ⟨⟨a, _, rfl, hS, imAll_ints ns⟩, trivial⟩
    have hlen := cellsF_len ns
    refine read_ok (t := .bl true) ?_ st fun v H' s2 im => by rw [im.bl_eq]; exact q H'
    -- script 0, bits 1, k 2
    refine ru_skip (Pt.eq (t_not (t_val (k := true) (y_call0 (f := E.f_l_by_hand_right) (r := .t (.bl true)) G1 hr ⟨rfl, rfl⟩))) rfl) ?_
    refine ru_set 1 (y := .s ((cellsF ns).map T.int)) sc_law.nd (y_call (f := E.f_l_cells) G2 hr (a_cons (x := .s (ns.map T.int)) (yl 0) (a1 (x := .t (natT 2)) y_int)) ⟨ns, h63, rfl, rfl⟩) ?_
    refine ru_ret (x := .t (.bl true)) (Py.eq (y_all (bs := (List.range (cellsF ns).length).map fun _ => true) rfl (PyN.arg ?q) E.b_all) ?z) rfl
    case z => simp
    case q =>
      rw [List.map_map]
      refine y_lm (own := [("_law_k", 2)]) (List.range (cellsF ns).length) natT (fun _ => .bl true) [2] rfl sc_law.nd ((i_rng (n := (cellsF ns).length) (Py.eq (y_lenL (yl 1) E.b_len) (by rw [List.length_map]; rfl)) (by omega) E.b_range).c) (blkOk_by (N := n_law) (sc := defScope s_law) (by decide +kernel)) (by decide) fun k hk => ?_
      have hkl := List.mem_range.mp hk
      have hx : (cellsF ns)[k]? = some (cellsF ns)[k] := List.getElem?_eq_getElem hkl
      exact ⟨_, fun s H C cl fp => ⟨g_name 2 sc_law.nd, y_callF (u := boxU (cellsF ns)[k] k) (m := 0) (need := 98) (t0 := .bl true) G3 hr (y_call (f := E.f_l_box) G4 hr (a_cons (x := .s ((cellsF ns).map T.int)) (yl 1) (a1 (x := .t (natT k)) (yv 2))) ⟨cellsF ns, k, (cellsF ns)[k], by omega, hx, rfl, rfl⟩) ⟨rfl, rfl, rfl⟩ (box_ok (by omega)) (by decide)⟩⟩
theorem ok_law_all {fa : Addr} {fd : FuncData} (E : E9 K mg) (W : Wt K mg) (F : Fun K "law" "law" s_law fa fd) : FnOk P w K mg base CX0 200 fa fd ["_law_script"] (spLaw K) := by
  have h_set_n : Ok9 P w base 1 E.f_set_of r_set_n := ok_set_n E (k := 0)
  have h_set_s : Ok9 P w base 1 E.f_set_of r_set_s := ok_set_s E (k := 0)
  have h_set_h : Ok9 P w base 1 E.f_set_of r_set_h := ok_set_h E (k := 0)
  have h_l_kinds : Ok9 P w base 1 E.f_l_kinds r_l_kinds := ok_l_kinds E (k := 0)
  have h_check_move : Ok9 P w base 1 E.f_check_move r_check_move := ok_check_move E (k := 0)
  have h_check_spot : Ok9 P w base 1 E.f_check_spot r_check_spot := ok_check_spot E (k := 0)
  have h_term : Ok9 P w base 1 E.f_term_by_move r_term := ok_term_by_move E (k := 0)
  have h_old : Ok9 P w base 1 E.f_old_contents r_old := ok_old_contents E (k := 0)
  have h_writes : Ok9 P w base 1 E.f_writes r_writes := ok_writes E (k := 0)
  have h_with_term : Ok9 P w base 1 E.f_with_term r_with_term := ok_with_term E
  have h_l_counting : Ok9 P w base 1 E.f_l_counting r_l_counting := ok_l_counting E (k := 0)
  have h_l_end : Ok9 P w base 1 E.f_l_end r_l_end := ok_l_end E (k := 0)
  have h_bad_rows : Ok9 P w base 1 E.f_bad_rows r_bad_rows := ok_bad_rows E (k := 0)
  have h_l_run : Ok9 P w base 1 E.f_l_run r_l_run := ok_l_run E (k := 0)
  have h_l_timings : Ok9 P w base 1 E.f_l_timings r_l_timings := ok_l_timings E (k := 0)
  have h_take : OkU P w base 1 E.f_l_take r_take := ok_take E (k := 0)
  have h_box : Ok9 P w base 1 E.f_l_box r_box := ok_box E (k := 0)
  have h_cells : Ok9 P w base 1 E.f_l_cells r_cells := ok_cells E (k := 0)
  have h_spots : Ok9 P w base 2 E.f_spots r_spots := ok_spots E (k := 1) (h_set_n.mono (by decide))
  have h_held : Ok9 P w base 2 E.f_held_behind_terms r_held := ok_held_terms E (k := 1) (h_term.mono (by decide))
  have h_writer : Ok9 P w base 2 E.f_writer r_writer := ok_writer E (k := 1) (h_writes.mono (by decide))
  have h_b_losses : Ok9 P w base 2 E.f_held_behind_losses r_behind_losses := ok_behind_losses E (k := 1) (h_with_term.mono (by decide))
  have h_l_hazards : Ok9 P w base 2 E.f_l_hazards r_l_hazards := ok_l_hazards E (k := 1) (h_l_counting.mono (by decide))
  have h_class_names : Ok9 P w base 2 E.f_class_names r_class_names := ok_class_names E (k := 1) (h_set_s.mono (by decide))
  have h_moments : Ok9 P w base 2 E.f_all_moments r_moments := ok_moments E (k := 1) (h_set_n.mono (by decide))
  have h_of : OkU P w base 2 E.f_l_of r_of := ok_of E (k := 1) (h_take.mono (by decide))
  have h_stretches : Ok9 P w base 3 E.f_stretches r_stretches := ok_stretches E (k := 2) (h_spots.mono (by decide))
  have h_mark_l : Ok9 P w base 3 E.f_mark_below_losses r_mark := ok_mark_losses E (k := 2) (h_spots.mono (by decide))
  have h_mark_w : Ok9 P w base 3 E.f_mark_below_watch r_mark := ok_mark_watch E (k := 2) (h_spots.mono (by decide))
  have h_by_spot : Ok9 P w base 3 E.f_held_by_spot r_by_spot := ok_held_by_spot E (k := 2) (h_held.mono (by decide)) (h_old.mono (by decide))
  have h_sources : Ok9 P w base 3 E.f_sources r_sources := ok_sources E (k := 2) (h_check_move.mono (by decide)) (h_writer.mono (by decide))
  have h_is_kept : Ok9 P w base 3 E.f_is_kept r_is_kept := ok_is_kept E (k := 2) (h_writer.mono (by decide))
  have h_end_from : Ok9 P w base 3 E.f_end_from r_end_from := ok_end_from E (k := 2) (h_held.mono (by decide))
  have h_check_classes : Ok9 P w base 3 E.f_check_classes r_check_classes := ok_check_classes E (k := 2) (h_class_names.mono (by decide))
  have h_open : Ok9 P w base 3 E.f_open_classes r_open := ok_open E (k := 2) (h_class_names.mono (by decide))
  have h_row : OkU P w base 3 E.f_l_row r_row := ok_row E (k := 2) (h_take.mono (by decide)) (h_of.mono (by decide))
  have h_fleet : OkU P w base 3 E.f_l_fleet r_fleet := ok_fleet E (k := 2) (h_take.mono (by decide)) (h_of.mono (by decide))
  have h_contents : Ok9 P w base 4 E.f_contents_at r_contents := ok_contents_at E (k := 3) (h_check_spot.mono (by decide)) (h_by_spot.mono (by decide))
  have h_end_terms : Ok9 P w base 4 E.f_end_terms r_end := ok_end_terms E (k := 3) (h_by_spot.mono (by decide))
  have h_users : Ok9 P w base 4 E.f_users r_users := ok_users E (k := 3) (h_sources.mono (by decide))
  have h_along : Ok9 P w base 4 E.f_contents_along r_along := ok_along E (k := 3) (h_with_term.mono (by decide)) (h_b_losses.mono (by decide)) (h_mark_l.mono (by decide))
  have h_b_word : Ok9 P w base 4 E.f_behind_word r_behind_word := ok_behind_word E (k := 3) (h_term.mono (by decide)) (h_mark_w.mono (by decide))
  have h_stopped : Ok9 P w base 4 E.f_stopped_at r_stopped := ok_stopped_at E (k := 3) (h_check_classes.mono (by decide)) (h_bad_rows.mono (by decide))
  have h_count_at : Ok9 P w base 4 E.f_count_at r_count_at := ok_count_at E (k := 3) (h_open.mono (by decide))
  have h_first : Ok9 P w base 5 E.f_first_state r_first := ok_first_state E (k := 4) (h_contents.mono (by decide))
  have h_counting : Ok9 P w base 5 E.f_counting r_counting := ok_counting E (k := 4) (h_set_n.mono (by decide)) (h_is_kept.mono (by decide)) (h_users.mono (by decide))
  have h_last : Ok9 P w base 5 E.f_last_contents r_last := ok_last E (k := 4) (h_along.mono (by decide))
  have h_deed : OkM P w mg base 5 W.deed (spDeed K W.C) := ok_w_deed E W (k := 4) (h_b_word.mono (by decide))
  have h_w_end : OkM P w mg base 5 W.endn (spRead K W.C rEndN) := ok_w_end E W (k := 4) (h_end_from.mono (by decide))
  have h_harmed : Ok9 P w base 5 E.f_harmed r_harmed := ok_harmed E (k := 4) (h_stopped.mono (by decide)) (h_bad_rows.mono (by decide))
  have h_counts : Ok9 P w base 5 E.f_fleet_counts r_counts := ok_counts E (k := 4) (h_moments.mono (by decide)) (h_count_at.mono (by decide))
  have h_tupled : Ok9 P w base 6 E.f_tupled (r_tupled 5) := ok_tupled E 5
  have h_reads : Ok9 P w base 6 E.f_reads_first r_reads := ok_reads_first E (k := 5) (h_counting.mono (by decide))
  have h_end_of : Ok9 P w base 6 E.f_end_of r_end_of := ok_end_of E (k := 5) (h_last.mono (by decide))
  have h_lose : OkM P w mg base 6 W.lose (spLose K W.C) := ok_w_lose E W (k := 5) (h_deed.mono (by decide))
  have h_well : OkM P w mg base 6 W.well (spRead K W.C rWell) := ok_w_well E W (k := 5) (h_w_end.mono (by decide)) (h_end_terms.mono (by decide))
  have h_most : Ok9 P w base 6 E.f_most_harmed r_most := ok_most E (k := 5) (h_counts.mono (by decide))
  have h_hazards : Ok9 P w base 7 E.f_hazards r_hazards := ok_hazards E (k := 6) (h_set_h.mono (by decide)) (h_stretches.mono (by decide)) (h_reads.mono (by decide))
  have h_losses : Ok9 P w base 7 E.f_losses_against r_losses := ok_losses E (k := 6) (h_end_of.mono (by decide))
  have h_init : FnOk P w K mg base CX0 7 W.ia W.id ["self", "row"] (spInit K W.C) := ok_w_init E W (k := 6) (h_tupled.mono (by decide)) (h_first.mono (by decide))
  have h_keeps : Ok9 P w base 8 E.f_keeps r_keeps := ok_keeps E (k := 7) (h_hazards.mono (by decide))
  have h_twin : OkM P w mg base 9 W.twin (spTwin K W.C) := ok_w_twin E W (k := 7) (h_init.mono (by decide))
  have h_go : OkM P w mg base 10 W.go (spGo K W.C) := ok_w_go E W (k := 9) (h_twin.mono (by decide)) (h_deed.mono (by decide))
  have h_same : Ok9 P w base 61 E.f_l_same (r_same 60) := ok_same E 60
  have h_line : Ok9 P w base 63 E.f_l_line_right r_line_right := ok_line_right E W (k := 61) (h_init.mono (by decide)) (h_go.mono (by decide)) (h_lose.mono (by decide)) (h_w_end.mono (by decide)) (h_well.mono (by decide)) (h_l_end.mono (by decide)) (h_same.mono (by decide)) (h_end_of.mono (by decide)) (h_hazards.mono (by decide)) (h_keeps.mono (by decide)) (h_losses.mono (by decide)) (h_l_hazards.mono (by decide))
  have h_fleet_right : Ok9 P w base 62 E.f_l_fleet_right r_fleet_right := ok_fleet_right E (k := 61) (h_l_kinds.mono (by decide)) (h_l_hazards.mono (by decide)) (h_keeps.mono (by decide)) (h_same.mono (by decide)) (h_l_run.mono (by decide)) (h_harmed.mono (by decide)) (h_stopped.mono (by decide)) (h_most.mono (by decide))
  have h_by_hand : Ok9 P w base 64 E.f_l_by_hand_right r_by_hand := ok_by_hand E (k := 63) (h_hazards.mono (by decide)) (h_keeps.mono (by decide)) (h_losses.mono (by decide)) (h_end_of.mono (by decide)) (h_line.mono (by decide)) (h_fleet_right.mono (by decide)) (h_same.mono (by decide))
  have h_right : OkU P w base 64 E.f_l_right r_right := ok_right E (k := 63) (h_take.mono (by decide)) (h_of.mono (by decide)) (h_fleet.mono (by decide)) (h_row.mono (by decide)) (h_l_kinds.mono (by decide)) (h_line.mono (by decide)) (h_l_timings.mono (by decide)) (h_fleet_right.mono (by decide))
  exact (ok_law E (k := 64) F (h_by_hand.mono (by decide)) (h_cells.mono (by decide)) (h_right.mono (by decide)) (h_box.mono (by decide))).mono (by decide)
end
end Nine
set_option maxHeartbeats 4000000
/-! the head and what the top has written (printed by gen_head.py) -/
namespace Nine
open PySem L2
def fn9_mk {K : PySem.W.Frag} {h : Heap} {mg : Str → Option Value} {x nm : Str} {st : Stmt} {ps : List Str} {f : Addr} {od an : Option Addr} {sl : Array (Option Value)} {oc kV dc pm cd ct : Value} (X : K.In h) (G : h.Ns mainGlobals mg)
    (a : PySem.W.nsIn K mainGlobals x = some (some (.ref f))) (l : K.lookup f = some ⟨oc, od, .func (PySem.W.fnOf nm nm (defArgs st) (defBody st) (defScope st) .none kV dc pm an cd ct), sl⟩) (c : PySem.W.codeIn K cd nm = true) (k : PySem.W.keepIn K (.ref f) = true)
    (hb : ∀ (kV dc pm : Value) (an : Option Addr) (cdv ct : Value) (us : List Value), us.length = ps.length → bindArgs (PySem.W.fnOf nm nm (defArgs st) (defBody st) (defScope st) .none kV dc pm an cdv ct) ⟨us, []⟩ = pure (ps.zip us)) : Fn9 K mg x nm st ps :=
  ⟨f, _, fun_mk l c k, (fun_mk l c k).binds hb, PySem.W.mg_of X G a⟩
end Nine
namespace Nine
open PySem L2
theorem c_mk {K : PySem.W.Frag} {h : Heap} {mg : Str → Option Value} {n : Str} {A : Type} {F : A → Value} {t : A} (X : K.In h) (G : h.Ns mainGlobals mg) (a : PySem.W.nsIn K mainGlobals n = some (some (F t))) : ∃ t, mg n = some (F t) := ⟨t, PySem.W.mg_of X G a⟩
theorem na_mk {K : PySem.W.Frag} {C : Addr} {f : Str} (a : PySem.W.findIn K (.ref C) f = some none) : NoAttr K C f := a
def me9_mk {K : PySem.W.Frag} {C f : Addr} {m qn : Str} {st : Stmt} {ps : List Str} {od an : Option Addr} {sl : Array (Option Value)} {oc kV dc pm cd ct : Value} (a : PySem.W.findIn K (.ref C) m = some (some (.ref f))) (i : PySem.W.isFn K (.ref f) = true)
    (l : K.lookup f = some ⟨oc, od, .func (PySem.W.fnOf m qn (defArgs st) (defBody st) (defScope st) .none kV dc pm an cd ct), sl⟩) (c : PySem.W.codeIn K cd qn = true) (k : PySem.W.keepIn K (.ref f) = true)
    (hb : ∀ (kV dc pm : Value) (an : Option Addr) (cdv ct : Value) (us : List Value), us.length = ps.length → bindArgs (PySem.W.fnOf m qn (defArgs st) (defBody st) (defScope st) .none kV dc pm an cdv ct) ⟨us, []⟩ = pure (ps.zip us)) : Me9 K C m qn st ps :=
  ⟨f, _, fun_mk l c k, (fun_mk l c k).binds hb, ⟨a, i, k⟩⟩
theorem all_mk {l : PySem.W.OpenLaw} {w : World} {K : PySem.W.Frag} {h : Heap} {mg : Str → Option Value} {fa f : Addr} (X : K.In h) (G : h.Ns mainGlobals mg) (hfa : mg "law" = some (.ref fa)) (E : E9 K mg) (W : Wt K mg)
    {od an : Option Addr} {sl : Array (Option Value)} {oc kV dc pm cd ct : Value} (a : PySem.W.nsIn K mainGlobals "law" = some (some (.ref f))) (lk : K.lookup f = some ⟨oc, od, .func (PySem.W.fnOf "law" "law" (defArgs s_law) (defBody s_law) (defScope s_law) .none kV dc pm an cd ct), sl⟩)
    (c : PySem.W.codeIn K cd "law" = true) (k : PySem.W.keepIn K (.ref f) = true) :
    ∃ fd : FuncData, (∀ (s : Shared) (v : Value), BindsTo s fd ⟨[v], []⟩ [("_law_script", v)]) ∧ ∀ base : Heap, K.In base → base.Ns mainGlobals mg → FnOk l.prog w K mg base CX0 200 fa fd ["_law_script"] (spLaw K) := by
  have e := hfa.symm.trans (PySem.W.mg_of X G a)
  cases e
  exact ⟨_, fun s v => .of_eq rfl, fun base _ _ => ok_law_all E W (fun_mk (st := s_law) lk c k)⟩
theorem walk {l : PySem.W.OpenLaw} {q : Program} {loose : List Str} {XP : (Str → Option Value) → Heap → Prop} {YP : World → Heap → Prop} {d : DefRec} {K : Params → PySem.W.Frag} (hn : l.most = some 63) (hdf : d.params.defaults = [])
    (hY : ∀ (w : World) (h : Heap), YP w h → (K w.params).In h)
    (F : ∀ (w : World) (mg : Str → Option Value) (fa : Addr) (h : Heap), (K w.params).In h → h.Ns mainGlobals mg → mg d.name = some (.ref fa) →
      ∃ fd : FuncData, (∀ (s : Shared) (u : Value), BindsTo s fd ⟨[u], []⟩ [("_law_script", u)]) ∧ ∀ base : Heap, (K w.params).In base → base.Ns mainGlobals mg → FnOk l.prog w (K w.params) mg base CX0 200 fa fd ["_law_script"] (spLaw (K w.params))) :
    PySem.W.WalkO q loose XP YP l.row.toRowW d [] (fun f vs => PySem.call f vs) :=
  L2.walk_of (n := 63) (k := 200) (x := "_law_script") (CX := fun _ => CX0) (sp := fun w => spLaw (K w.params)) hn (by decide) hdf ⟨rfl, by decide, by decide⟩ hY F (fun _ _ a ns hl _ hS => ⟨a, ns, rfl, hS, hl, fun _ => rfl⟩) fun _ _ _ _ _ z => z
end Nine
open PySem PySem.W PyProof.Rows
set_option maxRecDepth 100000 in
set_option maxHeartbeats 0 in
open_top head for PySem.Challenge.rw_atanywrite_k99_whole_rows_that_do_not_ke
set_option maxRecDepth 100000 in
set_option maxHeartbeats 0 in
theorem PySem.Challenge.cw_atanywrite_k99_whole_rows_that_do_not_ke_holds : PySem.Challenge.rw_atanywrite_k99_whole_rows_that_do_not_ke.Holds :=
  head (by
  k_fill
  refine Nine.walk (l := PySem.Challenge.rw_atanywrite_k99_whole_rows_that_do_not_ke) rfl rfl (fun w h Y => PySem.W.kIn_of Y) ?F
  case F =>
    intro w mg fa h KX G hmg
    refine' Nine.all_mk KX G hmg (Nine.E9.mk (PySem.W.mg_none_of KX G ?b_abs)
      (PySem.W.mg_none_of KX G ?b_all)
      (PySem.W.mg_none_of KX G ?b_any)
      (PySem.W.mg_none_of KX G ?b_bool)
      (PySem.W.mg_none_of KX G ?b_dict)
      (PySem.W.mg_none_of KX G ?b_enumerate)
      (PySem.W.mg_none_of KX G ?b_int)
      (PySem.W.mg_none_of KX G ?b_isinstance)
      (PySem.W.mg_none_of KX G ?b_len)
      (PySem.W.mg_none_of KX G ?b_list)
      (PySem.W.mg_none_of KX G ?b_max)
      (PySem.W.mg_none_of KX G ?b_min)
      (PySem.W.mg_none_of KX G ?b_property)
      (PySem.W.mg_none_of KX G ?b_range)
      (PySem.W.mg_none_of KX G ?b_set)
      (PySem.W.mg_none_of KX G ?b_sorted)
      (PySem.W.mg_none_of KX G ?b_str)
      (PySem.W.mg_none_of KX G ?b_tuple)
      (PySem.W.mg_none_of KX G ?b_zip)
      (Nine.c_mk KX G ?c_DEVICE)
      (Nine.c_mk KX G ?c_CLASS)
      (Nine.c_mk KX G ?c_TRIES)
      (Nine.c_mk KX G ?c_COPY_rows)
      (Nine.c_mk KX G ?c_PAIR)
      (Nine.c_mk KX G ?c_PARTS_rows)
      (Nine.c_mk KX G ?c_OLD_terms)
      (Nine.c_mk KX G ?c_SPOILT_terms)
      (Nine.c_mk KX G ?c_COPY_terms)
      (Nine.c_mk KX G ?c_CELLS)
      (Nine.c_mk KX G ?c_WANTED)
      (Nine.c_mk KX G ?c_MOVES)
      (Nine.c_mk KX G ?c_NAME)
      (Nine.c_mk KX G ?c_READS)
      (Nine.c_mk KX G ?c_CELL)
      (Nine.c_mk KX G ?c_PARTS_terms)
      (Nine.c_mk KX G ?c_OLD_losses)
      (Nine.c_mk KX G ?c_SPOILT_losses)
      (Nine.c_mk KX G ?c_GOAL)
      (Nine.c_mk KX G ?c_DO)
      (Nine.c_mk KX G ?c_LOSE)
      (Nine.fn9_mk KX G ?af_set_of ?lf_set_of ?df_set_of ?kf_set_of (fun _ _ _ _ _ _ us hl => match us, hl with | [_], _ => rfl))
      (Nine.fn9_mk KX G ?af_tupled ?lf_tupled ?df_tupled ?kf_tupled (fun _ _ _ _ _ _ us hl => match us, hl with | [_], _ => rfl))
      (Nine.fn9_mk KX G ?af_class_names ?lf_class_names ?df_class_names ?kf_class_names (fun _ _ _ _ _ _ us hl => match us, hl with | [_], _ => rfl))
      (Nine.fn9_mk KX G ?af_check_classes ?lf_check_classes ?df_check_classes ?kf_check_classes (fun _ _ _ _ _ _ us hl => match us, hl with | [_, _], _ => rfl))
      (Nine.fn9_mk KX G ?af_bad_rows ?lf_bad_rows ?df_bad_rows ?kf_bad_rows (fun _ _ _ _ _ _ us hl => match us, hl with | [_, _, _, _], _ => rfl))
      (Nine.fn9_mk KX G ?af_stopped_at ?lf_stopped_at ?df_stopped_at ?kf_stopped_at (fun _ _ _ _ _ _ us hl => match us, hl with | [_, _, _, _], _ => rfl))
      (Nine.fn9_mk KX G ?af_harmed ?lf_harmed ?df_harmed ?kf_harmed (fun _ _ _ _ _ _ us hl => match us, hl with | [_, _, _, _], _ => rfl))
      (Nine.fn9_mk KX G ?af_open_classes ?lf_open_classes ?df_open_classes ?kf_open_classes (fun _ _ _ _ _ _ us hl => match us, hl with | [_, _], _ => rfl))
      (Nine.fn9_mk KX G ?af_count_at ?lf_count_at ?df_count_at ?kf_count_at (fun _ _ _ _ _ _ us hl => match us, hl with | [_, _, _], _ => rfl))
      (Nine.fn9_mk KX G ?af_all_moments ?lf_all_moments ?df_all_moments ?kf_all_moments (fun _ _ _ _ _ _ us hl => match us, hl with | [_], _ => rfl))
      (Nine.fn9_mk KX G ?af_fleet_counts ?lf_fleet_counts ?df_fleet_counts ?kf_fleet_counts (fun _ _ _ _ _ _ us hl => match us, hl with | [_, _], _ => rfl))
      (Nine.fn9_mk KX G ?af_most_harmed ?lf_most_harmed ?df_most_harmed ?kf_most_harmed (fun _ _ _ _ _ _ us hl => match us, hl with | [_, _], _ => rfl))
      (Nine.fn9_mk KX G ?af_spots ?lf_spots ?df_spots ?kf_spots (fun _ _ _ _ _ _ us hl => match us, hl with | [_], _ => rfl))
      (Nine.fn9_mk KX G ?af_stretches ?lf_stretches ?df_stretches ?kf_stretches (fun _ _ _ _ _ _ us hl => match us, hl with | [_], _ => rfl))
      (Nine.fn9_mk KX G ?af_check_move ?lf_check_move ?df_check_move ?kf_check_move (fun _ _ _ _ _ _ us hl => match us, hl with | [_, _], _ => rfl))
      (Nine.fn9_mk KX G ?af_check_spot ?lf_check_spot ?df_check_spot ?kf_check_spot (fun _ _ _ _ _ _ us hl => match us, hl with | [_, _], _ => rfl))
      (Nine.fn9_mk KX G ?af_term_by_move ?lf_term_by_move ?df_term_by_move ?kf_term_by_move (fun _ _ _ _ _ _ us hl => match us, hl with | [_, _], _ => rfl))
      (Nine.fn9_mk KX G ?af_old_contents ?lf_old_contents ?df_old_contents ?kf_old_contents (fun _ _ _ _ _ _ us hl => match us, hl with | [_], _ => rfl))
      (Nine.fn9_mk KX G ?af_held_behind_terms ?lf_held_behind_terms ?df_held_behind_terms ?kf_held_behind_terms (fun _ _ _ _ _ _ us hl => match us, hl with | [_, _], _ => rfl))
      (Nine.fn9_mk KX G ?af_held_by_spot ?lf_held_by_spot ?df_held_by_spot ?kf_held_by_spot (fun _ _ _ _ _ _ us hl => match us, hl with | [_, _], _ => rfl))
      (Nine.fn9_mk KX G ?af_contents_at ?lf_contents_at ?df_contents_at ?kf_contents_at (fun _ _ _ _ _ _ us hl => match us, hl with | [_, _], _ => rfl))
      (Nine.fn9_mk KX G ?af_end_terms ?lf_end_terms ?df_end_terms ?kf_end_terms (fun _ _ _ _ _ _ us hl => match us, hl with | [_], _ => rfl))
      (Nine.fn9_mk KX G ?af_writes ?lf_writes ?df_writes ?kf_writes (fun _ _ _ _ _ _ us hl => match us, hl with | [_, _], _ => rfl))
      (Nine.fn9_mk KX G ?af_writer ?lf_writer ?df_writer ?kf_writer (fun _ _ _ _ _ _ us hl => match us, hl with | [_, _, _], _ => rfl))
      (Nine.fn9_mk KX G ?af_sources ?lf_sources ?df_sources ?kf_sources (fun _ _ _ _ _ _ us hl => match us, hl with | [_, _], _ => rfl))
      (Nine.fn9_mk KX G ?af_users ?lf_users ?df_users ?kf_users (fun _ _ _ _ _ _ us hl => match us, hl with | [_, _], _ => rfl))
      (Nine.fn9_mk KX G ?af_is_kept ?lf_is_kept ?df_is_kept ?kf_is_kept (fun _ _ _ _ _ _ us hl => match us, hl with | [_, _], _ => rfl))
      (Nine.fn9_mk KX G ?af_counting ?lf_counting ?df_counting ?kf_counting (fun _ _ _ _ _ _ us hl => match us, hl with | [_], _ => rfl))
      (Nine.fn9_mk KX G ?af_mark_below_losses ?lf_mark_below_losses ?df_mark_below_losses ?kf_mark_below_losses (fun _ _ _ _ _ _ us hl => match us, hl with | [_, _], _ => rfl))
      (Nine.fn9_mk KX G ?af_held_behind_losses ?lf_held_behind_losses ?df_held_behind_losses ?kf_held_behind_losses (fun _ _ _ _ _ _ us hl => match us, hl with | [_, _, _], _ => rfl))
      (Nine.fn9_mk KX G ?af_with_term ?lf_with_term ?df_with_term ?kf_with_term (fun _ _ _ _ _ _ us hl => match us, hl with | [_, _, _, _], _ => rfl))
      (Nine.fn9_mk KX G ?af_contents_along ?lf_contents_along ?df_contents_along ?kf_contents_along (fun _ _ _ _ _ _ us hl => match us, hl with | [_, _], _ => rfl))
      (Nine.fn9_mk KX G ?af_last_contents ?lf_last_contents ?df_last_contents ?kf_last_contents (fun _ _ _ _ _ _ us hl => match us, hl with | [_, _], _ => rfl))
      (Nine.fn9_mk KX G ?af_end_of ?lf_end_of ?df_end_of ?kf_end_of (fun _ _ _ _ _ _ us hl => match us, hl with | [_, _], _ => rfl))
      (Nine.fn9_mk KX G ?af_reads_first ?lf_reads_first ?df_reads_first ?kf_reads_first (fun _ _ _ _ _ _ us hl => match us, hl with | [_, _], _ => rfl))
      (Nine.fn9_mk KX G ?af_hazards ?lf_hazards ?df_hazards ?kf_hazards (fun _ _ _ _ _ _ us hl => match us, hl with | [_], _ => rfl))
      (Nine.fn9_mk KX G ?af_keeps ?lf_keeps ?df_keeps ?kf_keeps (fun _ _ _ _ _ _ us hl => match us, hl with | [_], _ => rfl))
      (Nine.fn9_mk KX G ?af_losses_against ?lf_losses_against ?df_losses_against ?kf_losses_against (fun _ _ _ _ _ _ us hl => match us, hl with | [_], _ => rfl))
      (Nine.fn9_mk KX G ?af_mark_below_watch ?lf_mark_below_watch ?df_mark_below_watch ?kf_mark_below_watch (fun _ _ _ _ _ _ us hl => match us, hl with | [_, _], _ => rfl))
      (Nine.fn9_mk KX G ?af_behind_word ?lf_behind_word ?df_behind_word ?kf_behind_word (fun _ _ _ _ _ _ us hl => match us, hl with | [_, _, _], _ => rfl))
      (Nine.fn9_mk KX G ?af_end_from ?lf_end_from ?df_end_from ?kf_end_from (fun _ _ _ _ _ _ us hl => match us, hl with | [_, _], _ => rfl))
      (Nine.fn9_mk KX G ?af_first_state ?lf_first_state ?df_first_state ?kf_first_state (fun _ _ _ _ _ _ us hl => match us, hl with | [_], _ => rfl))
      (Nine.fn9_mk KX G ?af_l_box ?lf_l_box ?df_l_box ?kf_l_box (fun _ _ _ _ _ _ us hl => match us, hl with | [_, _], _ => rfl))
      (Nine.fn9_mk KX G ?af_l_take ?lf_l_take ?df_l_take ?kf_l_take (fun _ _ _ _ _ _ us hl => match us, hl with | [_, _], _ => rfl))
      (Nine.fn9_mk KX G ?af_l_cells ?lf_l_cells ?df_l_cells ?kf_l_cells (fun _ _ _ _ _ _ us hl => match us, hl with | [_, _], _ => rfl))
      (Nine.fn9_mk KX G ?af_l_of ?lf_l_of ?df_l_of ?kf_l_of (fun _ _ _ _ _ _ us hl => match us, hl with | [_, _], _ => rfl))
      (Nine.fn9_mk KX G ?af_l_same ?lf_l_same ?df_l_same ?kf_l_same (fun _ _ _ _ _ _ us hl => match us, hl with | [_, _], _ => rfl))
      (Nine.fn9_mk KX G ?af_l_fleet ?lf_l_fleet ?df_l_fleet ?kf_l_fleet (fun _ _ _ _ _ _ us hl => match us, hl with | [_, _], _ => rfl))
      (Nine.fn9_mk KX G ?af_l_kinds ?lf_l_kinds ?df_l_kinds ?kf_l_kinds (fun _ _ _ _ _ _ us hl => match us, hl with | [_], _ => rfl))
      (Nine.fn9_mk KX G ?af_l_run ?lf_l_run ?df_l_run ?kf_l_run (fun _ _ _ _ _ _ us hl => match us, hl with | [_, _, _, _], _ => rfl))
      (Nine.fn9_mk KX G ?af_l_timings ?lf_l_timings ?df_l_timings ?kf_l_timings (fun _ _ _ _ _ _ us hl => match us, hl with | [_], _ => rfl))
      (Nine.fn9_mk KX G ?af_l_row ?lf_l_row ?df_l_row ?kf_l_row (fun _ _ _ _ _ _ us hl => match us, hl with | [_], _ => rfl))
      (Nine.fn9_mk KX G ?af_l_counting ?lf_l_counting ?df_l_counting ?kf_l_counting (fun _ _ _ _ _ _ us hl => match us, hl with | [_], _ => rfl))
      (Nine.fn9_mk KX G ?af_l_hazards ?lf_l_hazards ?df_l_hazards ?kf_l_hazards (fun _ _ _ _ _ _ us hl => match us, hl with | [_], _ => rfl))
      (Nine.fn9_mk KX G ?af_l_end ?lf_l_end ?df_l_end ?kf_l_end (fun _ _ _ _ _ _ us hl => match us, hl with | [_, _], _ => rfl))
      (Nine.fn9_mk KX G ?af_l_line_right ?lf_l_line_right ?df_l_line_right ?kf_l_line_right (fun _ _ _ _ _ _ us hl => match us, hl with | [_], _ => rfl))
      (Nine.fn9_mk KX G ?af_l_fleet_right ?lf_l_fleet_right ?df_l_fleet_right ?kf_l_fleet_right (fun _ _ _ _ _ _ us hl => match us, hl with | [_, _, _, _], _ => rfl))
      (Nine.fn9_mk KX G ?af_l_by_hand_right ?lf_l_by_hand_right ?df_l_by_hand_right ?kf_l_by_hand_right (fun _ _ _ _ _ _ us hl => match us, hl with | [], _ => rfl))
      (Nine.fn9_mk KX G ?af_l_right ?lf_l_right ?df_l_right ?kf_l_right (fun _ _ _ _ _ _ us hl => match us, hl with | [_], _ => rfl))) (Nine.Wt.mk _
      ⟨?wpg, ?whd, ?wpo, ?wsa⟩
      (Nine.na_mk ?wnr)
      (Nine.na_mk ?wnt)
      (Nine.na_mk ?wns)
      (PySem.W.mg_of KX G ?wC)
      _
      _
      (L2.fun_mk (st := Nine.s_w_init) ?li ?di ?ki)
      ((L2.fun_mk (st := Nine.s_w_init) ?li ?di ?ki).binds (ps := ["self", "row"]) (fun _ _ _ _ _ _ us hl => match us, hl with | [_, _], _ => rfl))
      ⟨?wmk, ?ai, ?wfi, ?wkc⟩
      (Nine.me9_mk (st := Nine.s_w_deed) ?madeed ?mfdeed ?mldeed ?mddeed ?mkdeed (fun _ _ _ _ _ _ us hl => match us, hl with | [_, _], _ => rfl))
      (Nine.me9_mk (st := Nine.s_w_lose) ?malose ?mflose ?mllose ?mdlose ?mklose (fun _ _ _ _ _ _ us hl => match us, hl with | [_], _ => rfl))
      (Nine.me9_mk (st := Nine.s_w_go) ?mago ?mfgo ?mlgo ?mdgo ?mkgo (fun _ _ _ _ _ _ us hl => match us, hl with | [_, _], _ => rfl))
      (Nine.me9_mk (st := Nine.s_w_twin) ?matwin ?mftwin ?mltwin ?mdtwin ?mktwin (fun _ _ _ _ _ _ us hl => match us, hl with | [_], _ => rfl))
      (Nine.me9_mk (st := Nine.s_w_end_now) ?maend_now ?mfend_now ?mlend_now ?mdend_now ?mkend_now (fun _ _ _ _ _ _ us hl => match us, hl with | [_], _ => rfl))
      (Nine.me9_mk (st := Nine.s_w_is_well) ?mais_well ?mfis_well ?mlis_well ?mdis_well ?mkis_well (fun _ _ _ _ _ _ us hl => match us, hl with | [_], _ => rfl))) ?alaw ?llaw ?dlaw ?klaw
    (case wC => k_is)
    (case ai => k_is)
    (case li => k_is)
    (case di => k_is)
    (case ki => k_is)
    (case b_abs => k_is)
    (case b_all => k_is)
    (case b_any => k_is)
    (case b_bool => k_is)
    (case b_dict => k_is)
    (case b_enumerate => k_is)
    (case b_int => k_is)
    (case b_isinstance => k_is)
    (case b_len => k_is)
    (case b_list => k_is)
    (case b_max => k_is)
    (case b_min => k_is)
    (case b_property => k_is)
    (case b_range => k_is)
    (case b_set => k_is)
    (case b_sorted => k_is)
    (case b_str => k_is)
    (case b_tuple => k_is)
    (case b_zip => k_is)
    (case c_DEVICE => k_is)
    (case c_CLASS => k_is)
    (case c_TRIES => k_is)
    (case c_COPY_rows => k_is)
    (case c_PAIR => k_is)
    (case c_PARTS_rows => k_is)
    (case c_OLD_terms => k_is)
    (case c_SPOILT_terms => k_is)
    (case c_COPY_terms => k_is)
    (case c_CELLS => k_is)
    (case c_WANTED => k_is)
    (case c_MOVES => k_is)
    (case c_NAME => k_is)
    (case c_READS => k_is)
    (case c_CELL => k_is)
    (case c_PARTS_terms => k_is)
    (case c_OLD_losses => k_is)
    (case c_SPOILT_losses => k_is)
    (case c_GOAL => k_is)
    (case c_DO => k_is)
    (case c_LOSE => k_is)
    (case af_set_of => k_is)
    (case lf_set_of => k_is)
    (case df_set_of => k_is)
    (case kf_set_of => k_is)
    (case af_tupled => k_is)
    (case lf_tupled => k_is)
    (case df_tupled => k_is)
    (case kf_tupled => k_is)
    (case af_class_names => k_is)
    (case lf_class_names => k_is)
    (case df_class_names => k_is)
    (case kf_class_names => k_is)
    (case af_check_classes => k_is)
    (case lf_check_classes => k_is)
    (case df_check_classes => k_is)
    (case kf_check_classes => k_is)
    (case af_bad_rows => k_is)
    (case lf_bad_rows => k_is)
    (case df_bad_rows => k_is)
    (case kf_bad_rows => k_is)
    (case af_stopped_at => k_is)
    (case lf_stopped_at => k_is)
    (case df_stopped_at => k_is)
    (case kf_stopped_at => k_is)
    (case af_harmed => k_is)
    (case lf_harmed => k_is)
    (case df_harmed => k_is)
    (case kf_harmed => k_is)
    (case af_open_classes => k_is)
    (case lf_open_classes => k_is)
    (case df_open_classes => k_is)
    (case kf_open_classes => k_is)
    (case af_count_at => k_is)
    (case lf_count_at => k_is)
    (case df_count_at => k_is)
    (case kf_count_at => k_is)
    (case af_all_moments => k_is)
    (case lf_all_moments => k_is)
    (case df_all_moments => k_is)
    (case kf_all_moments => k_is)
    (case af_fleet_counts => k_is)
    (case lf_fleet_counts => k_is)
    (case df_fleet_counts => k_is)
    (case kf_fleet_counts => k_is)
    (case af_most_harmed => k_is)
    (case lf_most_harmed => k_is)
    (case df_most_harmed => k_is)
    (case kf_most_harmed => k_is)
    (case af_spots => k_is)
    (case lf_spots => k_is)
    (case df_spots => k_is)
    (case kf_spots => k_is)
    (case af_stretches => k_is)
    (case lf_stretches => k_is)
    (case df_stretches => k_is)
    (case kf_stretches => k_is)
    (case af_check_move => k_is)
    (case lf_check_move => k_is)
    (case df_check_move => k_is)
    (case kf_check_move => k_is)
    (case af_check_spot => k_is)
    (case lf_check_spot => k_is)
    (case df_check_spot => k_is)
    (case kf_check_spot => k_is)
    (case af_term_by_move => k_is)
    (case lf_term_by_move => k_is)
    (case df_term_by_move => k_is)
    (case kf_term_by_move => k_is)
    (case af_old_contents => k_is)
    (case lf_old_contents => k_is)
    (case df_old_contents => k_is)
    (case kf_old_contents => k_is)
    (case af_held_behind_terms => k_is)
    (case lf_held_behind_terms => k_is)
    (case df_held_behind_terms => k_is)
    (case kf_held_behind_terms => k_is)
    (case af_held_by_spot => k_is)
    (case lf_held_by_spot => k_is)
    (case df_held_by_spot => k_is)
    (case kf_held_by_spot => k_is)
    (case af_contents_at => k_is)
    (case lf_contents_at => k_is)
    (case df_contents_at => k_is)
    (case kf_contents_at => k_is)
    (case af_end_terms => k_is)
    (case lf_end_terms => k_is)
    (case df_end_terms => k_is)
    (case kf_end_terms => k_is)
    (case af_writes => k_is)
    (case lf_writes => k_is)
    (case df_writes => k_is)
    (case kf_writes => k_is)
    (case af_writer => k_is)
    (case lf_writer => k_is)
    (case df_writer => k_is)
    (case kf_writer => k_is)
    (case af_sources => k_is)
    (case lf_sources => k_is)
    (case df_sources => k_is)
    (case kf_sources => k_is)
    (case af_users => k_is)
    (case lf_users => k_is)
    (case df_users => k_is)
    (case kf_users => k_is)
    (case af_is_kept => k_is)
    (case lf_is_kept => k_is)
    (case df_is_kept => k_is)
    (case kf_is_kept => k_is)
    (case af_counting => k_is)
    (case lf_counting => k_is)
    (case df_counting => k_is)
    (case kf_counting => k_is)
    (case af_mark_below_losses => k_is)
    (case lf_mark_below_losses => k_is)
    (case df_mark_below_losses => k_is)
    (case kf_mark_below_losses => k_is)
    (case af_held_behind_losses => k_is)
    (case lf_held_behind_losses => k_is)
    (case df_held_behind_losses => k_is)
    (case kf_held_behind_losses => k_is)
    (case af_with_term => k_is)
    (case lf_with_term => k_is)
    (case df_with_term => k_is)
    (case kf_with_term => k_is)
    (case af_contents_along => k_is)
    (case lf_contents_along => k_is)
    (case df_contents_along => k_is)
    (case kf_contents_along => k_is)
    (case af_last_contents => k_is)
    (case lf_last_contents => k_is)
    (case df_last_contents => k_is)
    (case kf_last_contents => k_is)
    (case af_end_of => k_is)
    (case lf_end_of => k_is)
    (case df_end_of => k_is)
    (case kf_end_of => k_is)
    (case af_reads_first => k_is)
    (case lf_reads_first => k_is)
    (case df_reads_first => k_is)
    (case kf_reads_first => k_is)
    (case af_hazards => k_is)
    (case lf_hazards => k_is)
    (case df_hazards => k_is)
    (case kf_hazards => k_is)
    (case af_keeps => k_is)
    (case lf_keeps => k_is)
    (case df_keeps => k_is)
    (case kf_keeps => k_is)
    (case af_losses_against => k_is)
    (case lf_losses_against => k_is)
    (case df_losses_against => k_is)
    (case kf_losses_against => k_is)
    (case af_mark_below_watch => k_is)
    (case lf_mark_below_watch => k_is)
    (case df_mark_below_watch => k_is)
    (case kf_mark_below_watch => k_is)
    (case af_behind_word => k_is)
    (case lf_behind_word => k_is)
    (case df_behind_word => k_is)
    (case kf_behind_word => k_is)
    (case af_end_from => k_is)
    (case lf_end_from => k_is)
    (case df_end_from => k_is)
    (case kf_end_from => k_is)
    (case af_first_state => k_is)
    (case lf_first_state => k_is)
    (case df_first_state => k_is)
    (case kf_first_state => k_is)
    (case af_l_box => k_is)
    (case lf_l_box => k_is)
    (case df_l_box => k_is)
    (case kf_l_box => k_is)
    (case af_l_take => k_is)
    (case lf_l_take => k_is)
    (case df_l_take => k_is)
    (case kf_l_take => k_is)
    (case af_l_cells => k_is)
    (case lf_l_cells => k_is)
    (case df_l_cells => k_is)
    (case kf_l_cells => k_is)
    (case af_l_of => k_is)
    (case lf_l_of => k_is)
    (case df_l_of => k_is)
    (case kf_l_of => k_is)
    (case af_l_same => k_is)
    (case lf_l_same => k_is)
    (case df_l_same => k_is)
    (case kf_l_same => k_is)
    (case af_l_fleet => k_is)
    (case lf_l_fleet => k_is)
    (case df_l_fleet => k_is)
    (case kf_l_fleet => k_is)
    (case af_l_kinds => k_is)
    (case lf_l_kinds => k_is)
    (case df_l_kinds => k_is)
    (case kf_l_kinds => k_is)
    (case af_l_run => k_is)
    (case lf_l_run => k_is)
    (case df_l_run => k_is)
    (case kf_l_run => k_is)
    (case af_l_timings => k_is)
    (case lf_l_timings => k_is)
    (case df_l_timings => k_is)
    (case kf_l_timings => k_is)
    (case af_l_row => k_is)
    (case lf_l_row => k_is)
    (case df_l_row => k_is)
    (case kf_l_row => k_is)
    (case af_l_counting => k_is)
    (case lf_l_counting => k_is)
    (case df_l_counting => k_is)
    (case kf_l_counting => k_is)
    (case af_l_hazards => k_is)
    (case lf_l_hazards => k_is)
    (case df_l_hazards => k_is)
    (case kf_l_hazards => k_is)
    (case af_l_end => k_is)
    (case lf_l_end => k_is)
    (case df_l_end => k_is)
    (case kf_l_end => k_is)
    (case af_l_line_right => k_is)
    (case lf_l_line_right => k_is)
    (case df_l_line_right => k_is)
    (case kf_l_line_right => k_is)
    (case af_l_fleet_right => k_is)
    (case lf_l_fleet_right => k_is)
    (case df_l_fleet_right => k_is)
    (case kf_l_fleet_right => k_is)
    (case af_l_by_hand_right => k_is)
    (case lf_l_by_hand_right => k_is)
    (case df_l_by_hand_right => k_is)
    (case kf_l_by_hand_right => k_is)
    (case af_l_right => k_is)
    (case lf_l_right => k_is)
    (case df_l_right => k_is)
    (case kf_l_right => k_is)
    (case wpg => k_is)
    (case whd => k_is)
    (case wpo => k_is)
    (case wsa => k_is)
    (case wnr => k_is)
    (case wnt => k_is)
    (case wns => k_is)
    (case wmk => k_is)
    (case wfi => k_is)
    (case wkc => k_is)
    (case madeed => k_is)
    (case mfdeed => k_is)
    (case mldeed => k_is)
    (case mddeed => k_is)
    (case mkdeed => k_is)
    (case malose => k_is)
    (case mflose => k_is)
    (case mllose => k_is)
    (case mdlose => k_is)
    (case mklose => k_is)
    (case mago => k_is)
    (case mfgo => k_is)
    (case mlgo => k_is)
    (case mdgo => k_is)
    (case mkgo => k_is)
    (case matwin => k_is)
    (case mftwin => k_is)
    (case mltwin => k_is)
    (case mdtwin => k_is)
    (case mktwin => k_is)
    (case maend_now => k_is)
    (case mfend_now => k_is)
    (case mlend_now => k_is)
    (case mdend_now => k_is)
    (case mkend_now => k_is)
    (case mais_well => k_is)
    (case mfis_well => k_is)
    (case mlis_well => k_is)
    (case mdis_well => k_is)
    (case mkis_well => k_is)
    (case alaw => k_is)
    (case llaw => k_is)
    (case dlaw => k_is)
    (case klaw => k_is)
    )
