import PyProof.Rows.All
import Wide.All
import OpenK.AllK
import Wide.FinOn
import HandS.ForMost
import HandS.Exc
import HandS.ExcOwn
import HandS.Defaults
import HandS.Head0
import HandS.Head1
import HandS.Head2
import HandS.Head3
import HandS.Head4
import HandS.HeadEnd
import HandS.HeadHook1
import HandS.HeadHook2
import HandS.HeadHook3
import HandS.HeadHook4
import HandS.Base
import HandS.Call
import HandS.Words
import HandS.Deep
import HandS.TupAny
import HandS.Style
import HandS.IsInst
import HandS.Wide
import HandS.Flow
import HandS.Zip
import HandS.Conv
import HandS.ExcCtx
import HandS.TryMany
import HandS.TryOnly
import HandS.Comp
import HandS.FStr
import HandS.RaiseMore
import HandS.WordsDict
import HandS.MakeKwOnly
import HandS.CallSlots
import HandS.WordsExc
import HandS.Ends
import HandS.More
import HandS.OwnEq
import HandS.TupLe
import KE.DataCmp
import PyProof.ReprRoads
import KE.KExcInit
import KE.KTryMore
import HandS.ExcInit
import KE.KExcIs
import HandS.ExcField
import HandS.HotCalls
import HandS.Set
import HandS.SetFor
import HandS.Strs
import KE.DataMinMax
import HandS.SortKw
import PyProof.ReprNest
import PyProof.ReprReads
import PyProof.CallFns
import PyProof.StrHeap
import HandS.Dict
import KE.DataFind
import KE.KEqNest
import PyProof.NeKinds
import PyProof.FactsAll.dict
import KE.KCallOwn
import HandS.Small
import PyProof.Conv_bool
import HandS.SetBool
import HandS.Codes
import PySem.Challenge.RW_duetimes_k03_what_is_held_when
set_option Elab.async false
set_option linter.all false
set_option maxRecDepth 100000
set_option maxHeartbeats 0
set_option autoImplicit false
/-! G1: data as values, a state of our own, and what it says of the layer's. -/
namespace G
open PySem PySem.Spec PyProof.Rows L2

/-- the exception that a suite handles: where it stands, its dict, its class -/
structure XI where
  a : Addr
  dd : Option Addr
  cls : Value
/-- a value: what nobody writes is data, what is written is a number in the state -/
inductive D where
  | non | bl (b : Bool) | int (i : Int) | str (x : Str)
  | tup (ds : List D) | lst (ds : List D) | scr (ds : List D) | dct (kvs : List (Key × D)) | ins (c : Str) (fs : List (Str × D)) | ref (n : Nat) | exn (x : XI) (c : Str) (fs : List (Str × D))
/-- what may be written -/
inductive OB where
  | lst (ds : List D) | dct (kvs : List (Key × D)) | ins (c : Str) (fs : List (Str × D))
abbrev Hs := List OB
abbrev Ev := List (Option D)
abbrev Sl := L2.St

/-- an object of the written part: a list, a tuple -/
def KL (K : PySem.W.Frag) (a : Addr) (xs : List V) : Prop :=
  ∃ (o : Obj) (its : Array Value) (n : Nat), K.lookup a = some o ∧ o.cls = .type "list" ∧ o.dict = none ∧ o.data = .seq its n ∧ its.size ≤ sizeLine ∧ Vals xs its.toList
def KT (K : PySem.W.Frag) (a : Addr) (xs : List V) : Prop :=
  ∃ (o : Obj) (its : Array Value) (n : Nat), K.lookup a = some o ∧ o.cls = .type "tuple" ∧ o.data = .seq its n ∧ its.size ≤ sizeLine ∧ Vals xs its.toList
def FzL (K : PySem.W.Frag) (m : List Addr) (H : Hp) (a : Addr) (xs : List V) : Prop := (Rd H a (.lst xs) ∧ a ∉ m) ∨ KL K a xs
def FzT (K : PySem.W.Frag) (m : List Addr) (H : Hp) (a : Addr) (xs : List V) : Prop := (Rd H a (.tup xs) ∧ a ∉ m) ∨ KT K a xs
theorem FzL.sq {K : PySem.W.Frag} {m : List Addr} {H : Hp} {a : Addr} {xs : List V} (h : FzL K m H a xs) : SqL K H a xs := h.elim (fun z => .inl z.1) .inr
theorem FzT.sq {K : PySem.W.Frag} {m : List Addr} {H : Hp} {a : Addr} {xs : List V} (h : FzT K m H a xs) : SqT K H a xs := h.elim (fun z => .inl z.1) .inr

section
variable (K : PySem.W.Frag) (mg : Str → Option Value) (m : List Addr) (H : Hp)
mutual
def RD : D → V → Prop
  | .non, v => v = .non
  | .bl b, v => v = .bl b
  | .int i, v => v = .int i
  | .str x, v => v = .str x
  | .tup ds, v => ∃ a xs, v = .ref a ∧ FzT K m H a xs ∧ RDs ds xs
  | .lst ds, v => ∃ a xs, v = .ref a ∧ H a = some (.lst xs) ∧ a ∉ m ∧ RDs ds xs
  | .scr ds, v => ∃ a xs, v = .ref a ∧ FzL K m H a xs ∧ RDs ds xs
  | .dct kvs, v => ∃ a ys, v = .ref a ∧ H a = some (.dK ys) ∧ a ∉ m ∧ RDk kvs ys
  | .ins c fs, v => ∃ a C dx ys, v = .ref a ∧ mg c = some (.ref C) ∧ H a = some (.ins C dx ys) ∧ a ∉ m ∧ RDf fs ys
  | .ref n, v => ∃ a, v = .ref a ∧ m[n]? = some a
  | .exn x c fs, v => ∃ C ys, v = .ref x.a ∧ mg c = some (.ref C) ∧ x.cls = .ref C ∧ ((fs = [] ∧ ys = [] ∧ x.dd = none) ∨ ∃ d, x.dd = some d ∧ H d = some (.xd ys) ∧ d ∉ m) ∧ RDf fs ys
def RDs : List D → List V → Prop
  | [], vs => vs = []
  | d :: r, vs => ∃ v vr, vs = v :: vr ∧ RD d v ∧ RDs r vr
def RDk : List (Key × D) → List (Key × V) → Prop
  | [], ys => ys = []
  | (k, d) :: r, ys => ∃ v yr, ys = (k, v) :: yr ∧ RD d v ∧ RDk r yr
def RDf : List (Str × D) → List (Str × V) → Prop
  | [], ys => ys = []
  | (k, d) :: r, ys => ∃ v yr, ys = (k, v) :: yr ∧ RD d v ∧ RDf r yr
end
end

/-- further on: more numbers, what is no number's stays -/
structure Ext (m : List Addr) (H : Hp) (m' : List Addr) (H' : Hp) : Prop where
  pre : ∃ r, m' = m ++ r ∧ ∀ a ∈ r, H a = none
  keep : ∀ a o, H a = some o → a ∉ m → H' a = some o
  mono : ∀ a, H a ≠ none → H' a ≠ none
theorem Ext.refl (m : List Addr) (H : Hp) : Ext m H m H := ⟨⟨[], by simp, by simp⟩, fun _ _ h _ => h, fun _ h => h⟩
theorem Ext.trans {m m1 m2 : List Addr} {H H1 H2 : Hp} (a : Ext m H m1 H1) (b : Ext m1 H1 m2 H2) : Ext m H m2 H2 := by
  obtain ⟨r, rfl, hr⟩ := a.pre
  obtain ⟨r2, rfl, hr2⟩ := b.pre
  refine ⟨⟨r ++ r2, by simp, fun x hx => ?_⟩, fun x o hx hm => ?_, fun x hx => b.mono x (a.mono x hx)⟩
  · rcases List.mem_append.mp hx with h | h
    · exact hr x h
    · cases q : H x with
      | none => rfl
      | some o => exact absurd (hr2 x h) (a.mono x (by rw [q]; simp))
  · refine b.keep x o (a.keep x o hx hm) fun hm2 => ?_
    rcases List.mem_append.mp hm2 with h | h
    · exact hm h
    · rw [hr x h] at hx; cases hx
theorem Ext.notin {m m1 : List Addr} {H H1 : Hp} (e : Ext m H m1 H1) {a : Addr} {o : HO} (h : H a = some o) (hm : a ∉ m) : a ∉ m1 := by
  obtain ⟨r, rfl, hr⟩ := e.pre
  intro z
  rcases List.mem_append.mp z with h1 | h1
  · exact hm h1
  · rw [hr a h1] at h; cases h
theorem Ext.get {m m1 : List Addr} {H H1 : Hp} (e : Ext m H m1 H1) {n : Nat} {a : Addr} (h : m[n]? = some a) : m1[n]? = some a := by
  obtain ⟨r, rfl, _⟩ := e.pre
  rw [List.getElem?_append_left (List.getElem?_eq_some_iff.mp h).1]; exact h
/-- a new object, no number's -/
theorem Ext.new {m : List Addr} {H : Hp} {p : Addr} {o : HO} (h : H p = none) : Ext m H m (upd H p o) :=
  ⟨⟨[], by simp, by simp⟩, fun a u e _ => by rw [upd_ne (ne_of_none e h)]; exact e, fun a e => by
    unfold upd; split
    · simp
    · exact e⟩
/-- a new number -/
theorem Ext.alloc {m : List Addr} {H : Hp} {p : Addr} {o : HO} (h : H p = none) : Ext m H (m ++ [p]) (upd H p o) :=
  ⟨⟨[p], rfl, fun a ha => by rw [List.mem_singleton.mp ha]; exact h⟩, (Ext.new h).keep, (Ext.new h (m := m)).mono⟩
/-- a number's object is written -/
theorem Ext.write {m : List Addr} {H : Hp} {p : Addr} {o : HO} (h : p ∈ m) : Ext m H m (upd H p o) :=
  ⟨⟨[], by simp, by simp⟩, fun a u e hm => by rw [upd_ne (fun (z : a = p) => hm (by rw [z]; exact h))]; exact e, fun a e => by
    unfold upd; split
    · simp
    · exact e⟩

section
variable {K : PySem.W.Frag} {mg : Str → Option Value} {m m' : List Addr} {H H' : Hp}
theorem FzL.ext (e : Ext m H m' H') {a : Addr} {xs : List V} (h : FzL K m H a xs) : FzL K m' H' a xs := by
  rcases h with ⟨h | ⟨o, h⟩, hm⟩ | h
  · exact .inl ⟨.inl (e.keep _ _ h hm), e.notin h hm⟩
  · exact .inl ⟨.inr ⟨o, e.keep _ _ h hm⟩, e.notin h hm⟩
  · exact .inr h
theorem FzT.ext (e : Ext m H m' H') {a : Addr} {xs : List V} (h : FzT K m H a xs) : FzT K m' H' a xs := by
  rcases h with ⟨h | ⟨o, h⟩, hm⟩ | h
  · exact .inl ⟨.inl (e.keep _ _ h hm), e.notin h hm⟩
  · exact .inl ⟨.inr ⟨o, e.keep _ _ h hm⟩, e.notin h hm⟩
  · exact .inr h
mutual
theorem RD.ext (e : Ext m H m' H') : ∀ (d : D) (v : V), RD K mg m H d v → RD K mg m' H' d v
  | .non, v, h => by simpa only [RD] using h
  | .bl b, v, h => by simpa only [RD] using h
  | .int i, v, h => by simpa only [RD] using h
  | .str x, v, h => by simpa only [RD] using h
  | .tup ds, v, h => by
    simp only [RD] at h ⊢
    obtain ⟨a, xs, rfl, f, r⟩ := h
    exact ⟨a, xs, rfl, f.ext e, RDs.ext e ds xs r⟩
  | .lst ds, v, h => by
    simp only [RD] at h ⊢
    obtain ⟨a, xs, rfl, f, n, r⟩ := h
    exact ⟨a, xs, rfl, e.keep _ _ f n, e.notin f n, RDs.ext e ds xs r⟩
  | .scr ds, v, h => by
    simp only [RD] at h ⊢
    obtain ⟨a, xs, rfl, f, r⟩ := h
    exact ⟨a, xs, rfl, f.ext e, RDs.ext e ds xs r⟩
  | .dct kvs, v, h => by
    simp only [RD] at h ⊢
    obtain ⟨a, ys, rfl, f, n, r⟩ := h
    exact ⟨a, ys, rfl, e.keep _ _ f n, e.notin f n, RDk.ext e kvs ys r⟩
  | .ins c fs, v, h => by
    simp only [RD] at h ⊢
    obtain ⟨a, C, dx, ys, rfl, g, f, n, r⟩ := h
    exact ⟨a, C, dx, ys, rfl, g, e.keep _ _ f n, e.notin f n, RDf.ext e fs ys r⟩
  | .ref n, v, h => by
    simp only [RD] at h ⊢
    obtain ⟨a, rfl, f⟩ := h
    exact ⟨a, rfl, e.get f⟩
  | .exn x c fs, v, h => by
    simp only [RD] at h ⊢
    obtain ⟨C, ys, rfl, g, q, f, r⟩ := h
    exact ⟨C, ys, rfl, g, q, f.imp id fun ⟨d, e1, e2, e3⟩ => ⟨d, e1, e.keep _ _ e2 e3, e.notin e2 e3⟩, RDf.ext e fs ys r⟩
theorem RDs.ext (e : Ext m H m' H') : ∀ (ds : List D) (vs : List V), RDs K mg m H ds vs → RDs K mg m' H' ds vs
  | [], vs, h => by simpa only [RDs] using h
  | d :: r, vs, h => by
    simp only [RDs] at h ⊢
    obtain ⟨v, vr, rfl, h1, h2⟩ := h
    exact ⟨v, vr, rfl, RD.ext e d v h1, RDs.ext e r vr h2⟩
theorem RDk.ext (e : Ext m H m' H') : ∀ (ds : List (Key × D)) (vs : List (Key × V)), RDk K mg m H ds vs → RDk K mg m' H' ds vs
  | [], vs, h => by simpa only [RDk] using h
  | (k, d) :: r, vs, h => by
    simp only [RDk] at h ⊢
    obtain ⟨v, vr, rfl, h1, h2⟩ := h
    exact ⟨v, vr, rfl, RD.ext e d v h1, RDk.ext e r vr h2⟩
theorem RDf.ext (e : Ext m H m' H') : ∀ (ds : List (Str × D)) (vs : List (Str × V)), RDf K mg m H ds vs → RDf K mg m' H' ds vs
  | [], vs, h => by simpa only [RDf] using h
  | (k, d) :: r, vs, h => by
    simp only [RDf] at h ⊢
    obtain ⟨v, vr, rfl, h1, h2⟩ := h
    exact ⟨v, vr, rfl, RD.ext e d v h1, RDf.ext e r vr h2⟩
end
end

/-! ### lists of values -/
section
variable {K : PySem.W.Frag} {mg : Str → Option Value} {m m' : List Addr} {H H' : Hp}
theorem rds_iff : ∀ (ds : List D) (vs : List V), RDs K mg m H ds vs ↔ Paired (RD K mg m H) ds vs
  | [], vs => by
    simp only [RDs]
    constructor
    · rintro rfl; exact .nil
    · intro h; cases h; rfl
  | d :: r, vs => by
    simp only [RDs]
    constructor
    · rintro ⟨v, vr, rfl, h1, h2⟩; exact .cons h1 ((rds_iff r vr).mp h2)
    · intro h; cases h with
      | cons a b => exact ⟨_, _, rfl, a, (rds_iff r _).mpr b⟩
theorem RDs.len {ds : List D} {vs : List V} (h : RDs K mg m H ds vs) : ds.length = vs.length := Paired.length ((rds_iff _ _).mp h)
theorem RDs.get : ∀ {ds : List D} {vs : List V} {i : Nat} {d : D}, RDs K mg m H ds vs → ds[i]? = some d → ∃ v, vs[i]? = some v ∧ RD K mg m H d v
  | [], _, i, d, _, e => by simp at e
  | x :: r, vs, 0, d, h, e => by
    simp only [RDs] at h
    obtain ⟨v, vr, rfl, h1, h2⟩ := h
    simp at e; subst e
    exact ⟨v, rfl, h1⟩
  | x :: r, vs, i + 1, d, h, e => by
    simp only [RDs] at h
    obtain ⟨v, vr, rfl, h1, h2⟩ := h
    obtain ⟨u, e1, e2⟩ := RDs.get (i := i) (d := d) h2 (by simpa using e)
    exact ⟨u, by simpa using e1, e2⟩
theorem RDs.append : ∀ {ds es : List D} {vs us : List V}, RDs K mg m H ds vs → RDs K mg m H es us → RDs K mg m H (ds ++ es) (vs ++ us)
  | [], es, vs, us, h, g => by
    simp only [RDs] at h; subst h; simpa using g
  | d :: r, es, vs, us, h, g => by
    simp only [RDs, List.cons_append] at h ⊢
    obtain ⟨v, vr, rfl, h1, h2⟩ := h
    exact ⟨v, vr ++ us, rfl, h1, RDs.append h2 g⟩
theorem RDs.take : ∀ {ds : List D} {vs : List V} (n : Nat), RDs K mg m H ds vs → RDs K mg m H (ds.take n) (vs.take n)
  | _, _, 0, _ => by simp [RDs]
  | [], vs, n + 1, h => by simp only [RDs] at h; subst h; simp [RDs]
  | d :: r, vs, n + 1, h => by
    simp only [RDs] at h
    obtain ⟨v, vr, rfl, h1, h2⟩ := h
    simp only [List.take_succ_cons, RDs]
    exact ⟨v, _, rfl, h1, RDs.take n h2⟩
theorem RDs.drop : ∀ {ds : List D} {vs : List V} (n : Nat), RDs K mg m H ds vs → RDs K mg m H (ds.drop n) (vs.drop n)
  | ds, vs, 0, h => by simpa using h
  | [], vs, n + 1, h => by simp only [RDs] at h; subst h; simp [RDs]
  | d :: r, vs, n + 1, h => by
    simp only [RDs] at h
    obtain ⟨v, vr, rfl, h1, h2⟩ := h
    simpa using RDs.drop n h2
theorem RDs.set : ∀ {ds : List D} {vs : List V} (n : Nat) {d : D} {v : V}, RDs K mg m H ds vs → RD K mg m H d v → RDs K mg m H (ds.set n d) (vs.set n v)
  | [], vs, n, d, v, h, _ => by simp only [RDs] at h; subst h; simp [RDs]
  | x :: r, vs, 0, d, v, h, g => by
    simp only [RDs] at h
    obtain ⟨u, vr, rfl, h1, h2⟩ := h
    simp only [List.set_cons_zero, RDs]
    exact ⟨v, vr, rfl, g, h2⟩
  | x :: r, vs, n + 1, d, v, h, g => by
    simp only [RDs] at h
    obtain ⟨u, vr, rfl, h1, h2⟩ := h
    simp only [List.set_cons_succ, RDs]
    exact ⟨u, _, rfl, h1, RDs.set n h2 g⟩
theorem RDs.ints : ∀ {ns : List Int} {vs : List V}, RDs K mg m H (ns.map D.int) vs → vs = ns.map V.int
  | [], vs, h => by simpa only [List.map_nil, RDs] using h
  | n :: r, vs, h => by
    simp only [List.map_cons, RDs, RD] at h
    obtain ⟨v, vr, rfl, rfl, h2⟩ := h
    rw [RDs.ints h2]; rfl
theorem RDs.strs : ∀ {ns : List Str} {vs : List V}, RDs K mg m H (ns.map D.str) vs → vs = ns.map V.str
  | [], vs, h => by simpa only [List.map_nil, RDs] using h
  | n :: r, vs, h => by
    simp only [List.map_cons, RDs, RD] at h
    obtain ⟨v, vr, rfl, rfl, h2⟩ := h
    rw [RDs.strs h2]; rfl
theorem RDs.bls : ∀ {ns : List Bool} {vs : List V}, RDs K mg m H (ns.map D.bl) vs → vs = ns.map V.bl
  | [], vs, h => by simpa only [List.map_nil, RDs] using h
  | n :: r, vs, h => by
    simp only [List.map_cons, RDs, RD] at h
    obtain ⟨v, vr, rfl, rfl, h2⟩ := h
    rw [RDs.bls h2]; rfl
theorem RDs.of_ints : ∀ (ns : List Int), RDs K mg m H (ns.map D.int) (ns.map V.int)
  | [] => by simp [RDs]
  | n :: r => by simp only [List.map_cons, RDs, RD]; exact ⟨_, _, rfl, rfl, RDs.of_ints r⟩
theorem RDs.of_strs : ∀ (ns : List Str), RDs K mg m H (ns.map D.str) (ns.map V.str)
  | [] => by simp [RDs]
  | n :: r => by simp only [List.map_cons, RDs, RD]; exact ⟨_, _, rfl, rfl, RDs.of_strs r⟩
end
/-! ### the state -/
section
variable (K : PySem.W.Frag) (mg : Str → Option Value) (m : List Addr) (H : Hp)
/-- an object of the state stands at a -/
def RO (a : Addr) : OB → Prop
  | .lst ds => ∃ xs, H a = some (.lst xs) ∧ RDs K mg m H ds xs
  | .dct kvs => ∃ ys, H a = some (.dK ys) ∧ RDk K mg m H kvs ys
  | .ins c fs => ∃ C dx ys, mg c = some (.ref C) ∧ H a = some (.ins C dx ys) ∧ RDf K mg m H fs ys
structure Rel (h : Hs) : Prop where
  nd : m.Nodup
  len : m.length = h.length
  ob : ∀ (n : Nat) (o : OB) (a : Addr), h[n]? = some o → m[n]? = some a → RO K mg m H a o
/-- the slots -/
structure REnv (ρ : Ev) (σ : Sl) : Prop where
  len : ρ.length = σ.length
  get : ∀ (i : Nat) (d : D), ρ[i]? = some (some d) → ∃ v, σ[i]? = some (some v) ∧ RD K mg m H d v
/-- an exception: its class, its own dict -/
def RX (e : D) (cls : Value) (dd : Option Addr) : Prop := ∃ c fs C, e = .ins c fs ∧ mg c = some (.ref C) ∧ cls = .ref C ∧
  ((fs = [] ∧ dd = none) ∨ ∃ d ys, dd = some d ∧ H d = some (.xd ys) ∧ RDf K mg m H fs ys)
end
section
variable {K : PySem.W.Frag} {mg : Str → Option Value} {m m' : List Addr} {H H' : Hp}
theorem RO.ext (e : Ext m H m' H') {a : Addr} (hs : H' a = H a) : ∀ {o : OB}, RO K mg m H a o → RO K mg m' H' a o
  | .lst ds, ⟨xs, h, r⟩ => ⟨xs, by rw [hs]; exact h, RDs.ext e _ _ r⟩
  | .dct ds, ⟨xs, h, r⟩ => ⟨xs, by rw [hs]; exact h, RDk.ext e _ _ r⟩
  | .ins c ds, ⟨C, dx, xs, g, h, r⟩ => ⟨C, dx, xs, g, by rw [hs]; exact h, RDf.ext e _ _ r⟩
theorem RO.there {a : Addr} : ∀ {o : OB}, RO K mg m H a o → H a ≠ none
  | .lst ds, ⟨xs, h, r⟩ => by rw [h]; simp
  | .dct ds, ⟨xs, h, r⟩ => by rw [h]; simp
  | .ins c ds, ⟨C, dx, xs, g, h, r⟩ => by rw [h]; simp
theorem Rel.at_ {h : Hs} (r : Rel K mg m H h) {n : Nat} {o : OB} (hn : h[n]? = some o) : ∃ a, m[n]? = some a ∧ RO K mg m H a o := by
  have hl : n < m.length := by rw [r.len]; exact (List.getElem?_eq_some_iff.mp hn).1
  exact ⟨m[n], by simp [hl], r.ob n o _ hn (by simp [hl])⟩
theorem Rel.there {h : Hs} (r : Rel K mg m H h) {a : Addr} (ha : a ∈ m) : H a ≠ none := by
  obtain ⟨n, hn⟩ := List.getElem?_of_mem ha
  have hl : n < h.length := by rw [← r.len]; exact (List.getElem?_eq_some_iff.mp hn).1
  exact (r.ob n h[n] a (by simp [hl]) hn).there
/-- a new object that is no number's -/
theorem Rel.new {h : Hs} {p : Addr} {o : HO} (r : Rel K mg m H h) (hp : H p = none) : Rel K mg m (upd H p o) h :=
  ⟨r.nd, r.len, fun n u a hn ha => (r.ob n u a hn ha).ext (Ext.new hp) (upd_ne fun z => by
    have := r.there (List.mem_of_getElem? ha)
    rw [z] at this; exact this hp)⟩
/-- a new number -/
theorem Rel.alloc {h : Hs} {p : Addr} {o : HO} {u : OB} (r : Rel K mg m H h) (hp : H p = none) (hu : RO K mg (m ++ [p]) (upd H p o) p u) : Rel K mg (m ++ [p]) (upd H p o) (h ++ [u]) := by
  have hpm : p ∉ m := fun z => r.there z hp
  refine ⟨?_, by simp [r.len], fun n w a hn ha => ?_⟩
  · rw [List.nodup_append]
    exact ⟨r.nd, by simp, fun a ha b hb => by rw [List.mem_singleton.mp hb]; rintro rfl; exact hpm ha⟩
  · by_cases hl : n < h.length
    · rw [List.getElem?_append_left hl] at hn
      rw [List.getElem?_append_left (by rw [r.len]; exact hl)] at ha
      exact (r.ob n w a hn ha).ext (Ext.alloc hp) (upd_ne fun z => hpm (z ▸ List.mem_of_getElem? ha))
    · rw [List.getElem?_append_right (by omega)] at hn
      rw [List.getElem?_append_right (by rw [r.len]; omega)] at ha
      have h0 : n - h.length = 0 := by
        have := (List.getElem?_eq_some_iff.mp hn).1
        simp at this; omega
      rw [h0] at hn
      rw [r.len, h0] at ha
      simp at hn ha
      subst hn ha
      exact hu
/-- a number's object is written -/
theorem Rel.write {h : Hs} {n : Nat} {p : Addr} {o : HO} {u : OB} (r : Rel K mg m H h) (hp : m[n]? = some p) (hu : RO K mg m (upd H p o) p u) : Rel K mg m (upd H p o) (h.set n u) := by
  refine ⟨r.nd, by simp [r.len], fun k w a hk ha => ?_⟩
  by_cases e : k = n
  · subst e
    rw [hp] at ha; cases ha
    have hl : k < h.length := by rw [← r.len]; exact (List.getElem?_eq_some_iff.mp hp).1
    rw [List.getElem?_set_self hl] at hk; cases hk
    exact hu
  · rw [List.getElem?_set_ne (Ne.symm e)] at hk
    refine (r.ob k w a hk ha).ext (Ext.write (List.mem_of_getElem? hp)) (upd_ne fun z => e ?_)
    subst z
    have h1 := List.getElem?_eq_some_iff.mp ha
    have h2 := List.getElem?_eq_some_iff.mp hp
    obtain ⟨l1, e1⟩ := h1
    obtain ⟨l2, e2⟩ := h2
    exact (List.getElem_inj r.nd).mp (e1.trans e2.symm)
theorem REnv.ext (e : Ext m H m' H') {ρ : Ev} {σ : Sl} (r : REnv K mg m H ρ σ) : REnv K mg m' H' ρ σ :=
  ⟨r.len, fun i d h => let ⟨v, h1, h2⟩ := r.get i d h; ⟨v, h1, RD.ext e d v h2⟩⟩
theorem REnv.set {ρ : Ev} {σ : Sl} (r : REnv K mg m H ρ σ) (i : Nat) {d : D} {v : V} (h : RD K mg m H d v) : REnv K mg m H (ρ.set i (some d)) (σ.set i (some v)) := by
  refine ⟨by simp [r.len], fun j u hj => ?_⟩
  by_cases e : i = j
  · subst e
    by_cases hl : i < ρ.length
    · rw [List.getElem?_set_self hl] at hj
      cases hj
      exact ⟨v, by rw [List.getElem?_set_self (by rw [← r.len]; exact hl)], h⟩
    · rw [List.getElem?_eq_none (by simp; omega)] at hj; cases hj
  · rw [List.getElem?_set_ne e] at hj ⊢
    exact r.get j u hj
theorem RX.ext (e : Ext m H m' H') {x : D} {cls : Value} {dd : Option Addr} (hd : ∀ d ys, H d = some (.xd ys) → d ∉ m) (r : RX K mg m H x cls dd) : RX K mg m' H' x cls dd := by
  obtain ⟨c, fs, C, rfl, g, rfl, h⟩ := r
  refine ⟨c, fs, C, rfl, g, rfl, ?_⟩
  rcases h with h | ⟨d, ys, rfl, h, r⟩
  · exact .inl h
  · exact .inr ⟨d, ys, rfl, e.keep _ _ h (hd _ _ h), RDf.ext e _ _ r⟩
theorem Rel.noxd {h : Hs} (r : Rel K mg m H h) : ∀ d ys, H d = some (.xd ys) → d ∉ m := fun d ys hd hm => by
  obtain ⟨n, hn⟩ := List.getElem?_of_mem hm
  have hl : n < h.length := by rw [← r.len]; exact (List.getElem?_eq_some_iff.mp hn).1
  have z := r.ob n h[n] d (by simp [hl]) hn
  cases q : h[n] with
  | lst ds => rw [q] at z; obtain ⟨xs, z, _⟩ := z; rw [hd] at z; cases z
  | dct ds => rw [q] at z; obtain ⟨xs, z, _⟩ := z; rw [hd] at z; cases z
  | ins c ds => rw [q] at z; obtain ⟨_, _, _, _, z, _⟩ := z; rw [hd] at z; cases z
end

/-! ### what a step comes to -/
inductive R (α : Type) where
  | ok (a : α) (h : Hs) | er (e : D) (h : Hs) | no
def R.bind {α β : Type} (x : R α) (f : α → Hs → R β) : R β := match x with
  | .ok a h => f a h
  | .er e h => .er e h
  | .no => .no
abbrev SE := Ev → Hs → R D
abbrev SA := Ev → Hs → R (List D)
abbrev ST := Ev → Hs → R Bool
inductive RS where
  | nx (ρ : Ev) (h : Hs) | rt (d : D) (h : Hs) | bk (ρ : Ev) (h : Hs) | ct (ρ : Ev) (h : Hs) | er (e : D) (ρ : Ev) (h : Hs) | no
abbrev SS := Ev → Hs → RS
abbrev Fs := List D → Hs → R D

section
variable (K : PySem.W.Frag) (mg : Str → Option Value)
/-- whatever lies so is what is wanted -/
def Po {α β : Type} (rel : List Addr → Hp → α → β → Prop) (m : List Addr) (H : Hp) (r : R α) (Q : β → Hp → Prop) (Wx : XK) : Prop := match r with
  | .ok a h' => ∀ m' H' b, Ext m H m' H' → Rel K mg m' H' h' → rel m' H' a b → Q b H'
  | .er e h' => ∀ m' H' c dd, Ext m H m' H' → Rel K mg m' H' h' → RX K mg m' H' e c dd → Wx c dd H'
  | .no => False
def PoS (m : List Addr) (H : Hp) (r : RS) (D : Ends) (W : WX) : Prop := match r with
  | .nx ρ' h' => ∀ m' H' σ', Ext m H m' H' → Rel K mg m' H' h' → REnv K mg m' H' ρ' σ' → D.nx σ' H'
  | .rt d h' => ∀ m' H' v, Ext m H m' H' → Rel K mg m' H' h' → RD K mg m' H' d v → D.rt v H'
  | .bk ρ' h' => ∀ m' H' σ', Ext m H m' H' → Rel K mg m' H' h' → REnv K mg m' H' ρ' σ' → D.bk σ' H'
  | .ct ρ' h' => ∀ m' H' σ', Ext m H m' H' → Rel K mg m' H' h' → REnv K mg m' H' ρ' σ' → D.ct σ' H'
  | .er e ρ' h' => ∀ m' H' σ' c dd, Ext m H m' H' → Rel K mg m' H' h' → REnv K mg m' H' ρ' σ' → RX K mg m' H' e c dd → W c dd σ' H'
  | .no => False
abbrev rB : List Addr → Hp → Bool → Bool → Prop := fun _ _ a b => a = b
/-- the readings -/
def LE (W : WX) (f : SE) : TE := fun σ H Q => ∃ m ρ h, Rel K mg m H h ∧ REnv K mg m H ρ σ ∧ Po K mg (RD K mg) m H (f ρ h) Q (fun c dd H' => W c dd σ H')
def LA (W : WX) (f : SA) : TA := fun σ H Q => ∃ m ρ h, Rel K mg m H h ∧ REnv K mg m H ρ σ ∧ Po K mg (RDs K mg) m H (f ρ h) Q (fun c dd H' => W c dd σ H')
def LT (W : WX) (f : ST) : TT := fun σ H Q => ∃ m ρ h, Rel K mg m H h ∧ REnv K mg m H ρ σ ∧ Po K mg rB m H (f ρ h) Q (fun c dd H' => W c dd σ H')
def LS (W : WX) (f : SS) : TS := fun D σ H => ∃ m ρ h, Rel K mg m H h ∧ REnv K mg m H ρ σ ∧ PoS K mg m H (f ρ h) D W
end
section
variable {K : PySem.W.Frag} {mg : Str → Option Value} {m m' : List Addr} {H H' : Hp} {α β γ δ : Type} {rel : List Addr → Hp → α → β → Prop} {rel' : List Addr → Hp → γ → δ → Prop}
theorem Po.ext {r : R α} {Q : β → Hp → Prop} {Wx : XK} (p : Po K mg rel m H r Q Wx) (e : Ext m H m' H') : Po K mg rel m' H' r Q Wx := by
  cases r with
  | ok a h => exact fun m1 H1 b e1 => p m1 H1 b (e.trans e1)
  | er x h => exact fun m1 H1 c dd e1 => p m1 H1 c dd (e.trans e1)
  | no => exact p
theorem PoS.ext {r : RS} {D : Ends} {W : WX} (p : PoS K mg m H r D W) (e : Ext m H m' H') : PoS K mg m' H' r D W := by
  cases r with
  | nx ρ h => exact fun m1 H1 σ e1 => p m1 H1 σ (e.trans e1)
  | rt d h => exact fun m1 H1 v e1 => p m1 H1 v (e.trans e1)
  | bk ρ h => exact fun m1 H1 σ e1 => p m1 H1 σ (e.trans e1)
  | ct ρ h => exact fun m1 H1 σ e1 => p m1 H1 σ (e.trans e1)
  | er x ρ h => exact fun m1 H1 σ c dd e1 => p m1 H1 σ c dd (e.trans e1)
  | no => exact p
theorem Po.bind {x : R α} {f : α → Hs → R γ} {Q : δ → Hp → Prop} {Wx : XK} (p : Po K mg rel' m H (x.bind f) Q Wx) :
    Po K mg rel m H x (fun b H1 => ∃ m1 a h1, Ext m H m1 H1 ∧ Rel K mg m1 H1 h1 ∧ rel m1 H1 a b ∧ Po K mg rel' m1 H1 (f a h1) Q Wx) Wx := by
  cases x with
  | ok a h => exact fun m1 H1 b e r q => ⟨m1, a, h, e, r, q, p.ext e⟩
  | er x h => exact p
  | no => exact p
theorem Po.mono {r : R α} {Q Q' : β → Hp → Prop} {Wx Wx' : XK} (p : Po K mg rel m H r Q Wx) (hq : ∀ b H, Q b H → Q' b H) (hw : ∀ c dd H, Wx c dd H → Wx' c dd H) : Po K mg rel m H r Q' Wx' := by
  cases r with
  | ok a h => exact fun m1 H1 b e r q => hq _ _ (p m1 H1 b e r q)
  | er x h => exact fun m1 H1 c dd e r q => hw _ _ _ (p m1 H1 c dd e r q)
  | no => exact p
theorem Po.ok {a : α} {h : Hs} {b : β} {Q : β → Hp → Prop} {Wx : XK} (p : Po K mg rel m H (.ok a h) Q Wx) (r : Rel K mg m H h) (ra : rel m H a b) : Q b H := p m H b (Ext.refl _ _) r ra
end
section
variable {X : Cx}
theorem pe_imp {e : Expr} {t t' : TE} (h : PE X e t) (k : ∀ σ H Q, t' σ H Q → t σ H Q) : PE X e t' := ⟨fun pins s σ H Q I q => h.run pins s σ H Q I (k σ H Q q)⟩
theorem pt_imp {e : Expr} {t t' : TT} (h : PT X e t) (k : ∀ σ H Q, t' σ H Q → t σ H Q) : PT X e t' := ⟨fun pins s σ H Q I q => h.run pins s σ H Q I (k σ H Q q)⟩
theorem pw_imp {e : Expr} {t t' : TT} (h : PW X e t) (k : ∀ σ H Q, t' σ H Q → t σ H Q) : PW X e t' := ⟨fun wh pins s σ H Q I q => h.run wh pins s σ H Q I (k σ H Q q)⟩
theorem pa_imp {es : List Expr} {t t' : TA} (h : PA X es t) (k : ∀ σ H Q, t' σ H Q → t σ H Q) : PA X es t' := ⟨fun pos pins s σ H Q I q => h.run pos pins s σ H Q I (k σ H Q q)⟩
theorem ps_imp {st : Stmt} {t t' : TS} (h : PS X st t) (k : ∀ D σ H, t' D σ H → t D σ H) : PS X st t' := ⟨fun pins s σ H D I q => h.run pins s σ H D I (k D σ H q)⟩
theorem pss_imp {st : List Stmt} {t t' : TS} (h : PSs X st t) (k : ∀ D σ H, t' D σ H → t D σ H) : PSs X st t' := ⟨fun pins s σ H D I q => h.run pins s σ H D I (k D σ H q)⟩
end
/-! ### the judgements: a piece of syntax does what a function of ours says -/
structure RE (X : Cx) (e : Expr) (f : SE) : Prop where
  run : ∀ W, Takes X W → PE X e (LE X.K X.mg W f)
structure RT (X : Cx) (e : Expr) (f : ST) : Prop where
  run : ∀ W, Takes X W → PT X e (LT X.K X.mg W f)
structure RW (X : Cx) (e : Expr) (f : ST) : Prop where
  run : ∀ W, Takes X W → PW X e (LT X.K X.mg W f)
structure RA (X : Cx) (es : List Expr) (f : SA) : Prop where
  run : ∀ W, Takes X W → PA X es (LA X.K X.mg W f)
structure RSt (X : Cx) (st : Stmt) (f : SS) : Prop where
  run : ∀ W, Takes X W → PS X st (LS X.K X.mg W f)
structure RSs (X : Cx) (st : List Stmt) (f : SS) : Prop where
  run : ∀ W, Takes X W → PSs X st (LS X.K X.mg W f)

/-! ### names, constants -/
section
variable {X : Cx}
def sVar (i : Nat) : SE := fun ρ h => match ρ[i]? with
  | some (some d) => .ok d h
  | _ => .no
def sC (d : D) : SE := fun _ h => .ok d h
theorem re_var {e : Expr} {i : Nat} (h : PE X e (tVar i)) : RE X e (sVar i) := ⟨fun W _ => pe_imp h fun σ H Q ⟨m, ρ, h, r, en, p⟩ => by
  unfold sVar at p
  split at p
  · rename_i d hd
    obtain ⟨v, hv, rd⟩ := en.get i d hd
    exact ⟨v, hv, p.ok r rd⟩
  · exact p.elim⟩
theorem re_c {e : Expr} {d : D} {v : V} (h : PE X e (tC v)) (hd : ∀ m H, RD X.K X.mg m H d v) : RE X e (sC d) := ⟨fun W _ => pe_imp h fun σ H Q ⟨m, ρ, h, r, en, p⟩ => p.ok r (hd m H)⟩
theorem re_int {i : Int} {j pos} : RE X (.Constant (.int i) j pos) (sC (.int i)) := re_c pe_int fun _ _ => by simp only [RD]
theorem re_bl {b j pos} : RE X (.Constant (.bool b) j pos) (sC (.bl b)) := re_c pe_bl fun _ _ => by simp only [RD]
theorem re_non {j pos} : RE X (.Constant .none j pos) (sC .non) := re_c pe_non fun _ _ => by simp only [RD]
theorem re_str {x j pos} : RE X (.Constant (.str x) j pos) (sC (.str x)) := re_c pe_str fun _ _ => by simp only [RD]
theorem rv (i : Nat) {x : Str} {pos : Pos} (hN : X.N[i]? = some x := by rfl) (hv : Vis X.env.scope x := by first | exact Or.inl rfl | exact Or.inr (Or.inl rfl) | exact Or.inr (Or.inr rfl)) (hd : (x == ("__debug__" : Str)) = false := by decide)
    (hcd : (x == ("__classdict__" : Str)) = false := by decide) : RE X (.Name x pos) (sVar i) := re_var (pe_var hN hv hd hcd)
/-- a constant of the module -/
theorem re_glob {x : Str} {d : D} {v : V} {pos : Pos} (hg : Gl X x) (hm : ∃ u, X.mg x = some u ∧ RelV v u) (hd : ∀ m H, RD X.K X.mg m H d v) (hdb : (x == ("__debug__" : Str)) = false := by decide) : RE X (.Name x pos) (sC d) := by
  obtain ⟨u, hu, r⟩ := hm
  exact re_c (pe_glob hg hu r hdb) hd

/-! ### arguments -/
def aNil : SA := fun _ h => .ok [] h
def aCons (f : SE) (g : SA) : SA := fun ρ h => (f ρ h).bind fun d h1 => (g ρ h1).bind fun ds h2 => .ok (d :: ds) h2
theorem ra_nil : RA X [] aNil := ⟨fun W _ => pa_imp pa_nil fun σ H Q ⟨m, ρ, h, r, en, p⟩ => p.ok r (by simp only [RDs])⟩
theorem ra_cons {e : Expr} {es : List Expr} {f : SE} {g : SA} (ha : RE X e f) (hr : RA X es g) (hs : starEach (e :: es) X.env = (false, eval e X.env) :: starEach es X.env := by rfl) : RA X (e :: es) (aCons f g) :=
  ⟨fun W tk => pa_imp (pa_cons (ha.run W tk) (hr.run W tk) hs) fun σ H Q ⟨m, ρ, h, r, en, p⟩ =>
    ⟨m, ρ, h, r, en, p.bind.mono (fun x H1 ⟨m1, a, h1, e1, r1, ra, p1⟩ => ⟨m1, ρ, h1, r1, en.ext e1, p1.bind.mono (fun xs H2 ⟨m2, as, h2, e2, r2, ras, p2⟩ =>
      p2.ok r2 (by simp only [RDs]; exact ⟨x, xs, rfl, RD.ext e2 _ _ ra, ras⟩)) fun _ _ _ z => z⟩) fun _ _ _ z => z⟩⟩
end
end G

/-! G2: operators, tests, statements. -/
namespace G
open PySem PySem.Spec PyProof.Rows L2
section
variable {X : Cx} {pos : Pos} {a b : Expr} {fa fb : SE}
/-! ### operators on values -/
abbrev V1 := D → Hs → R D
abbrev V2 := D → D → Hs → R D
/-- an operator of the layer's does what ours says -/
def Op2 (K : PySem.W.Frag) (mg : Str → Option Value) (g : V2) (r : R2) : Prop := ∀ (m : List Addr) (H : Hp) (h : Hs) (p q : D) (x y : V) (Q : VK) (Wx : XK), Rel K mg m H h → RD K mg m H p x → RD K mg m H q y → Po K mg (RD K mg) m H (g p q h) Q Wx → r x y H Q
def sBin (g : V2) (fa fb : SE) : SE := fun ρ h => (fa ρ h).bind fun p h1 => (fb ρ h1).bind fun q h2 => g p q h2
theorem le_bin {K : PySem.W.Frag} {mg : Str → Option Value} {g : V2} {r : R2} (hop : Op2 K mg g r) {W : WX} {σ : Sl} {H : Hp} {Q : VK} (h : LE K mg W (sBin g fa fb) σ H Q) : tOp r (LE K mg W fa) (LE K mg W fb) σ H Q := by
  obtain ⟨m, ρ, h, rl, en, p⟩ := h
  exact ⟨m, ρ, h, rl, en, p.bind.mono (fun x H1 ⟨m1, u, h1, e1, r1, ra, p1⟩ => ⟨m1, ρ, h1, r1, en.ext e1, p1.bind.mono (fun y H2 ⟨m2, v, h2, e2, r2, rb, p2⟩ =>
    hop m2 H2 h2 u v x y Q _ r2 (RD.ext e2 _ _ ra) rb p2) fun _ _ _ z => z⟩) fun _ _ _ z => z⟩
theorem re_bin {op : Operator} {g : V2} {r : R2} (ho : OpR X (binaryOp op) r) (hop : Op2 X.K X.mg g r) (ha : RE X a fa) (hb : RE X b fb) : RE X (.BinOp a op b pos) (sBin g fa fb) :=
  ⟨fun W tk => pe_imp (pe_op ho (ha.run W tk) (hb.run W tk)) fun σ H Q h => le_bin hop h⟩
theorem re_cmp {op : CmpOp} {g : V2} {r : R2} (ho : OpR X (compareOp op) r) (hop : Op2 X.K X.mg g r) (ha : RE X a fa) (hb : RE X b fb) (hm : behindInMarks op b = false := by first | exact nobehind _ (by decide) (by decide) | rfl) : RE X (.Compare a [op] [b] pos) (sBin g fa fb) :=
  ⟨fun W tk => pe_imp (pe_cmpR ho (ha.run W tk) (hb.run W tk) hm) fun σ H Q h => le_bin hop h⟩
/-- as a test: the answer is a truth -/
def tBl (r : R D) : R Bool := r.bind fun d h => match d with
  | .bl b => .ok b h
  | _ => .no
def sTB (f : SE) : ST := fun ρ h => tBl (f ρ h)
theorem rt_cmp {op : CmpOp} {g : V2} {r : R2} (ho : OpR X (compareOp op) r) (hop : Op2 X.K X.mg g r) (ha : RE X a fa) (hb : RE X b fb) (hm : behindInMarks op b = false := by first | exact nobehind _ (by decide) (by decide) | rfl) : RT X (.Compare a [op] [b] pos) (sTB (sBin g fa fb)) :=
  ⟨fun W tk => pt_imp (pt_cmpR ho (ha.run W tk) (hb.run W tk) hm) fun σ H Q ⟨m, ρ, h, rl, en, p⟩ => le_bin hop ⟨m, ρ, h, rl, en, p.bind.mono (fun x H1 ⟨m1, u, h1, e1, r1, ra, p1⟩ => by
    cases u with
    | bl b => simp only [RD] at ra; subst ra; exact ⟨b, rfl, p1.ok r1 rfl⟩
    | _ => exact False.elim p1) fun _ _ _ z => z⟩⟩
end

/-! ### values by sight -/
def asLst (d : D) (h : Hs) : Option (List D) := match d with
  | .lst ds => some ds
  | .ref n => match h[n]? with
    | some (.lst ds) => some ds
    | _ => none
  | _ => none
/-- a list or a tuple -/
def asSq (d : D) (h : Hs) : Option (List D) := match d with
  | .tup ds => some ds
  | .scr ds => some ds
  | _ => asLst d h
def asDct (d : D) (h : Hs) : Option (List (Key × D)) := match d with
  | .dct ds => some ds
  | .ref n => match h[n]? with
    | some (.dct ds) => some ds
    | _ => none
  | _ => none
def asIns (d : D) (h : Hs) : Option (Str × List (Str × D)) := match d with
  | .ins c fs => some (c, fs)
  | .ref n => match h[n]? with
    | some (.ins c fs) => some (c, fs)
    | _ => none
  | _ => none
section
variable {K : PySem.W.Frag} {mg : Str → Option Value} {m : List Addr} {H : Hp} {h : Hs} {d : D} {v : V}
theorem asLst_ok {ds : List D} (rl : Rel K mg m H h) (r : RD K mg m H d v) (e : asLst d h = some ds) : ∃ a xs, v = .ref a ∧ H a = some (.lst xs) ∧ RDs K mg m H ds xs := by
  unfold asLst at e
  split at e
  · cases e
    simp only [RD] at r
    obtain ⟨a, xs, rfl, f, n, r⟩ := r
    exact ⟨a, xs, rfl, f, r⟩
  · split at e
    · rename_i n _ ds' hn
      cases e
      simp only [RD] at r
      obtain ⟨a, rfl, ha⟩ := r
      obtain ⟨xs, f, r⟩ := rl.ob _ _ _ hn ha
      exact ⟨a, xs, rfl, f, r⟩
    · cases e
  · cases e
theorem asSq_ok {ds : List D} (rl : Rel K mg m H h) (r : RD K mg m H d v) (e : asSq d h = some ds) : ∃ a xs, v = .ref a ∧ (SqL K H a xs ∨ SqT K H a xs) ∧ RDs K mg m H ds xs := by
  unfold asSq at e
  split at e
  · cases e
    simp only [RD] at r
    obtain ⟨a, xs, rfl, f, r⟩ := r
    exact ⟨a, xs, rfl, .inr f.sq, r⟩
  · cases e
    simp only [RD] at r
    obtain ⟨a, xs, rfl, f, r⟩ := r
    exact ⟨a, xs, rfl, .inl f.sq, r⟩
  · obtain ⟨a, xs, rfl, f, r⟩ := asLst_ok rl r e
    exact ⟨a, xs, rfl, .inl (SqL.of f), r⟩
theorem asDct_ok {ds : List (Key × D)} (rl : Rel K mg m H h) (r : RD K mg m H d v) (e : asDct d h = some ds) : ∃ a xs, v = .ref a ∧ H a = some (.dK xs) ∧ RDk K mg m H ds xs := by
  unfold asDct at e
  split at e
  · cases e
    simp only [RD] at r
    obtain ⟨a, xs, rfl, f, n, r⟩ := r
    exact ⟨a, xs, rfl, f, r⟩
  · split at e
    · rename_i n _ ds' hn
      cases e
      simp only [RD] at r
      obtain ⟨a, rfl, ha⟩ := r
      obtain ⟨xs, f, r⟩ := rl.ob _ _ _ hn ha
      exact ⟨a, xs, rfl, f, r⟩
    · cases e
  · cases e
theorem asIns_ok {c : Str} {fs : List (Str × D)} (rl : Rel K mg m H h) (r : RD K mg m H d v) (e : asIns d h = some (c, fs)) : ∃ a C dx ys, v = .ref a ∧ mg c = some (.ref C) ∧ H a = some (.ins C dx ys) ∧ RDf K mg m H fs ys := by
  unfold asIns at e
  split at e
  · cases e
    simp only [RD] at r
    obtain ⟨a, C, dx, ys, rfl, g, f, n, r⟩ := r
    exact ⟨a, C, dx, ys, rfl, g, f, r⟩
  · split at e
    · rename_i n _ c' fs' hn
      cases e
      simp only [RD] at r
      obtain ⟨a, rfl, ha⟩ := r
      obtain ⟨C, dx, ys, g, f, r⟩ := rl.ob _ _ _ hn ha
      exact ⟨a, C, dx, ys, rfl, g, f, r⟩
    · cases e
  · cases e
/-- a new list that nobody writes -/
theorem Po.newL {ds : List D} {Q : VK} {Wx : XK} {xs : List V} {p : Addr} (po : Po K mg (RD K mg) m H (.ok (.lst ds) h) Q Wx) (rl : Rel K mg m H h) (hp : H p = none) (r : RDs K mg m H ds xs) : Q (.ref p) (upd H p (.lst xs)) := by
  refine po m _ _ (Ext.new hp) (rl.new hp) ?_
  simp only [RD]
  exact ⟨p, xs, rfl, upd_same, fun z => rl.there z hp, RDs.ext (Ext.new hp) _ _ r⟩
/-- a new tuple -/
theorem Po.newT {ds : List D} {Q : VK} {Wx : XK} {xs : List V} {p : Addr} (po : Po K mg (RD K mg) m H (.ok (.tup ds) h) Q Wx) (rl : Rel K mg m H h) (hp : H p = none) (r : RDs K mg m H ds xs) : Q (.ref p) (upd H p (.tup xs)) := by
  refine po m _ _ (Ext.new hp) (rl.new hp) ?_
  simp only [RD]
  exact ⟨p, xs, rfl, .inl ⟨.inl upd_same, fun z => rl.there z hp⟩, RDs.ext (Ext.new hp) _ _ r⟩
/-- a new list with a number -/
theorem Po.newR {ds : List D} {Q : VK} {Wx : XK} {xs : List V} {p : Addr} (po : Po K mg (RD K mg) m H (.ok (.ref h.length) (h ++ [.lst ds])) Q Wx) (rl : Rel K mg m H h) (hp : H p = none) (r : RDs K mg m H ds xs) : Q (.ref p) (upd H p (.lst xs)) := by
  refine po (m ++ [p]) _ _ (Ext.alloc hp) (rl.alloc hp ⟨xs, upd_same, RDs.ext (Ext.alloc hp) _ _ r⟩) ?_
  simp only [RD]
  exact ⟨p, rfl, by rw [List.getElem?_append_right (by rw [rl.len]; omega), rl.len]; simp⟩
theorem RD.tup_sq {ds : List D} (r : RD K mg m H (.tup ds) v) : ∃ a xs, v = .ref a ∧ SqT K H a xs ∧ RDs K mg m H ds xs := by
  simp only [RD] at r
  obtain ⟨a, xs, rfl, f, r⟩ := r
  exact ⟨a, xs, rfl, f.sq, r⟩
end
instance (i j : Int) : Decidable (CMul i j) := by unfold CMul; infer_instance
instance (i j : Int) : Decidable (CDiv i j) := by unfold CDiv; infer_instance
instance (i j : Int) : Decidable (CDivW i j) := by unfold CDivW; infer_instance
instance (i j : Int) : Decidable (CPow i j) := by unfold CPow; infer_instance

/-! ### the operators -/
def gAdd : V2 := fun p q h => match p, q with
  | .int i, .int j => .ok (.int (i + j)) h
  | .str i, .str j => if i.length + j.length ≤ sizeLine then .ok (.str (i ++ j)) h else .no
  | .tup ds, .tup es => if ds.length + es.length ≤ sizeLine then .ok (.tup (ds ++ es)) h else .no
  | _, _ => match asLst p h, asLst q h with
    | some ds, some es => if ds.length + es.length ≤ sizeLine then .ok (.lst (ds ++ es)) h else .no
    | _, _ => .no
abbrev rAddU (K : PySem.W.Frag) : R2 := fun x y H Q => rI0 (fun i j => .int (i + j)) x y H Q ∨ (∃ i j, x = .str i ∧ y = .str j ∧ i.length + j.length ≤ sizeLine ∧ Q (.str (i ++ j)) H) ∨ rCatA K x y H Q ∨ rCat x y H Q
theorem op_addU {X : Cx} : OpR X (binaryOp .Add) (rAddU X.K) := op_add.or (op_add_str.or (op_catA.or op_cat))
theorem g_add {K : PySem.W.Frag} {mg : Str → Option Value} : Op2 K mg gAdd (rAddU K) := by
  intro m H h p q x y Q Wx rl rp rq po
  unfold gAdd at po
  split at po
  · simp only [RD] at rp rq; subst rp rq
    exact .inl ⟨_, _, rfl, rfl, po.ok rl (by simp only [RD])⟩
  · split at po
    · simp only [RD] at rp rq; subst rp rq
      exact .inr (.inl ⟨_, _, rfl, rfl, by assumption, po.ok rl (by simp only [RD])⟩)
    · exact po.elim
  · rename_i ds es
    split at po
    · rename_i hz
      obtain ⟨a, xs, rfl, ha, ra⟩ := rp.tup_sq
      obtain ⟨b, ys, rfl, hb, rb⟩ := rq.tup_sq
      have la := ra.len
      have lb := rb.len
      refine .inr (.inr (.inl ⟨a, b, xs, ys, rfl, rfl, ha, hb, by omega, ?_, ?_, ?_⟩))
      · rintro rfl
        have : ds = [] := List.length_eq_zero_iff.mp (by simpa using la)
        subst this
        exact po.ok rl (by simpa using rq)
      · rintro _ rfl
        have : es = [] := List.length_eq_zero_iff.mp (by simpa using lb)
        subst this
        exact po.ok rl (by simpa using rp)
      · intro _ _ p hp
        exact po.newT rl hp (ra.append rb)
    · exact po.elim
  · split at po
    · rename_i ds es hd he
      split at po
      · obtain ⟨a, xs, rfl, ha, ra⟩ := asLst_ok rl rp hd
        obtain ⟨b, ys, rfl, hb, rb⟩ := asLst_ok rl rq he
        have la := ra.len
        have lb := rb.len
        exact .inr (.inr (.inr ⟨a, b, xs, ys, rfl, rfl, ha, hb, by omega, fun p hp => po.newL rl hp (ra.append rb)⟩))
      · exact po.elim
    · exact po.elim
/-- + of lists, the new one may be written -/
def gAddR : V2 := fun p q h => match asLst p h, asLst q h with
  | some ds, some es => if ds.length + es.length ≤ sizeLine then .ok (.ref h.length) (h ++ [.lst (ds ++ es)]) else .no
  | _, _ => .no
theorem g_addR {K : PySem.W.Frag} {mg : Str → Option Value} : Op2 K mg gAddR (rAddU K) := by
  intro m H h p q x y Q Wx rl rp rq po
  unfold gAddR at po
  split at po
  · rename_i ds es hd he
    split at po
    · obtain ⟨a, xs, rfl, ha, ra⟩ := asLst_ok rl rp hd
      obtain ⟨b, ys, rfl, hb, rb⟩ := asLst_ok rl rq he
      have la := ra.len
      have lb := rb.len
      exact .inr (.inr (.inr ⟨a, b, xs, ys, rfl, rfl, ha, hb, by omega, fun p hp => po.newR rl hp (ra.append rb)⟩))
    · exact po.elim
  · exact po.elim
/-- two ints, under a condition -/
def gI (C : Int → Int → Prop) [∀ i j, Decidable (C i j)] (f : Int → Int → D) : V2 := fun p q h => match p, q with
  | .int i, .int j => if C i j then .ok (f i j) h else .no
  | _, _ => .no
theorem g_i {K : PySem.W.Frag} {mg : Str → Option Value} {C : Int → Int → Prop} [∀ i j, Decidable (C i j)] {f : Int → Int → D} {g : Int → Int → V} (hg : ∀ m H i j, RD K mg m H (f i j) (g i j)) : Op2 K mg (gI C f) (rI C g) := by
  intro m H h p q x y Q Wx rl rp rq po
  unfold gI at po
  split at po
  · split at po
    · simp only [RD] at rp rq; subst rp rq
      exact ⟨_, _, rfl, rfl, by assumption, po.ok rl (hg _ _ _ _)⟩
    · exact po.elim
  · exact po.elim
abbrev gSub : V2 := gI (fun _ _ => True) fun i j => .int (i - j)
abbrev gMul : V2 := gI CMul fun i j => .int (i * j)
abbrev gDiv : V2 := gI CDivW fun i j => .int (i / j)
abbrev gMod : V2 := gI (fun _ j => 0 < j) fun i j => .int (i % j)
abbrev gPow : V2 := gI CPow fun i j => .int (i ^ j.toNat)
theorem op_subU {X : Cx} : OpR X (binaryOp .Sub) (rI (fun _ _ => True) fun i j => .int (i - j)) := fun pins s σ H x y v u Q I rx ry ⟨i, j, e1, e2, _, q⟩ => op_sub pins s σ H x y v u Q I rx ry ⟨i, j, e1, e2, q⟩
section
variable {X : Cx} {pos : Pos} {a b : Expr} {fa fb : SE}
theorem re_add (ha : RE X a fa) (hb : RE X b fb) : RE X (.BinOp a .Add b pos) (sBin gAdd fa fb) := re_bin op_addU g_add ha hb
theorem re_addR (ha : RE X a fa) (hb : RE X b fb) : RE X (.BinOp a .Add b pos) (sBin gAddR fa fb) := re_bin op_addU g_addR ha hb
theorem re_sub (ha : RE X a fa) (hb : RE X b fb) : RE X (.BinOp a .Sub b pos) (sBin gSub fa fb) := re_bin op_subU (g_i fun _ _ _ _ => by simp only [RD]) ha hb
theorem re_mul (ha : RE X a fa) (hb : RE X b fb) : RE X (.BinOp a .Mult b pos) (sBin gMul fa fb) := re_bin op_mul (g_i fun _ _ _ _ => by simp only [RD]) ha hb
theorem re_div (ha : RE X a fa) (hb : RE X b fb) : RE X (.BinOp a .FloorDiv b pos) (sBin gDiv fa fb) := re_bin op_fdivW (g_i fun _ _ _ _ => by simp only [RD]) ha hb
theorem re_mod (ha : RE X a fa) (hb : RE X b fb) : RE X (.BinOp a .Mod b pos) (sBin gMod fa fb) := re_bin op_mod (g_i fun _ _ _ _ => by simp only [RD]) ha hb
theorem re_pow (ha : RE X a fa) (hb : RE X b fb) : RE X (.BinOp a .Pow b pos) (sBin gPow fa fb) := re_bin op_pow (g_i fun _ _ _ _ => by simp only [RD]) ha hb
end
end G

/-! G3: comparisons, tests, truth, places, slices. -/
namespace G
open PySem PySem.Spec PyProof.Rows L2

/-- room for what runs between one call and the next -/
structure Rm (A : Around) : Prop where
  un : A.units + 200 < cLine
theorem Rm.units {A : Around} (r : Rm A) : A.units + 64 < cLine := by have := r.un; omega
theorem Rm.hu {A : Around} (r : Rm A) : A.units + 1 < cLine := by have := r.un; omega
theorem Rm.units0 {A : Around} (r : Rm A) : A.units < cLine := by have := r.un; omega
/-! ### data -/
mutual
def toP : D → Option PyData
  | .non => some .none
  | .bl b => some (.bool b)
  | .int i => some (.int i)
  | .str x => some (.str x)
  | .tup ds => (toPs ds).map .tuple
  | .lst ds => (toPs ds).map .list
  | .scr ds => (toPs ds).map .list
  | .dct _ => none
  | .ins _ _ => none
  | .exn _ _ _ => none
  | .ref _ => none
def toPs : List D → Option (List PyData)
  | [] => some []
  | d :: r => match toP d, toPs r with
    | some p, some ps => some (p :: ps)
    | _, _ => none
end
def toPh (d : D) (h : Hs) : Option PyData := match asLst d h with
  | some ds => (toPs ds).map .list
  | none => toP d
section
variable {K : PySem.W.Frag} {mg : Str → Option Value} {m : List Addr} {H : Hp} {h : Hs}
mutual
theorem toP_ok : ∀ (d : D) (v : V) (p : PyData), RD K mg m H d v → toP d = some p → Dp K H v p
  | .non, v, p, r, e => by simp only [RD] at r; simp only [toP] at e; subst r; cases e; exact .non
  | .bl b, v, p, r, e => by simp only [RD] at r; simp only [toP] at e; subst r; cases e; exact .bl b
  | .int b, v, p, r, e => by simp only [RD] at r; simp only [toP] at e; subst r; cases e; exact .int b
  | .str b, v, p, r, e => by simp only [RD] at r; simp only [toP] at e; subst r; cases e; exact .str b
  | .tup ds, v, p, r, e => by
    simp only [RD] at r; simp only [toP] at e
    obtain ⟨a, xs, rfl, f, r⟩ := r
    obtain ⟨ps, hp, rfl⟩ := Option.map_eq_some_iff.mp e
    exact .tup f.sq (toPs_ok ds xs ps r hp)
  | .lst ds, v, p, r, e => by
    simp only [RD] at r; simp only [toP] at e
    obtain ⟨a, xs, rfl, f, _, r⟩ := r
    obtain ⟨ps, hp, rfl⟩ := Option.map_eq_some_iff.mp e
    exact .lst (SqL.of f) (toPs_ok ds xs ps r hp)
  | .scr ds, v, p, r, e => by
    simp only [RD] at r; simp only [toP] at e
    obtain ⟨a, xs, rfl, f, r⟩ := r
    obtain ⟨ps, hp, rfl⟩ := Option.map_eq_some_iff.mp e
    exact .lst f.sq (toPs_ok ds xs ps r hp)
  | .dct _, v, p, r, e => by simp [toP] at e
  | .ins _ _, v, p, r, e => by simp [toP] at e
  | .exn _ _ _, v, p, r, e => by simp [toP] at e
  | .ref _, v, p, r, e => by simp [toP] at e
theorem toPs_ok : ∀ (ds : List D) (vs : List V) (ps : List PyData), RDs K mg m H ds vs → toPs ds = some ps → DpAll K H vs ps
  | [], vs, ps, r, e => by simp only [RDs] at r; simp only [toPs] at e; subst r; cases e; exact .nil
  | d :: ds, vs, ps, r, e => by
    simp only [RDs] at r; simp only [toPs] at e
    obtain ⟨v, vr, rfl, h1, h2⟩ := r
    split at e
    · rename_i p ps' e1 e2
      cases e
      exact .cons (toP_ok d v p h1 e1) (toPs_ok ds vr ps' h2 e2)
    · cases e
end
theorem toPh_ok {d : D} {v : V} {p : PyData} (rl : Rel K mg m H h) (r : RD K mg m H d v) (e : toPh d h = some p) : Dp K H v p := by
  unfold toPh at e
  split at e
  · rename_i ds hd
    obtain ⟨a, xs, rfl, f, r⟩ := asLst_ok rl r hd
    obtain ⟨ps, hp, rfl⟩ := Option.map_eq_some_iff.mp e
    exact .lst (SqL.of f) (toPs_ok ds xs ps r hp)
  · exact toP_ok d v p r e
end
/-- scalars that == tells by themselves -/
def scE : D → D → Option Bool
  | .non, .non => some true | .non, .int _ => some false | .int _, .non => some false | .non, .bl _ => some false | .bl _, .non => some false | .non, .str _ => some false | .str _, .non => some false
  | .int i, .int j => some (decide (i = j)) | .bl i, .bl j => some (decide (i = j)) | .str i, .str j => some (decide (i = j))
  | .int _, .str _ => some false | .str _, .int _ => some false | .bl _, .str _ => some false | .str _, .bl _ => some false
  | _, _ => none
theorem scE_ok {K : PySem.W.Frag} {mg : Str → Option Value} {m : List Addr} {H : Hp} {p q : D} {x y : V} {b : Bool} (rp : RD K mg m H p x) (rq : RD K mg m H q y) (e : scE p q = some b) : scal x y = true ∧ decide (x = y) = b := by
  unfold scE at e
  split at e <;> first
    | (cases e; simp only [RD] at rp rq; subst rp rq; simp [scal])
    | cases e
def eqD (p q : D) (h : Hs) : Option Bool := match scE p q with
  | some b => some b
  | none => match toPh p h, toPh q h with
    | some a, some b => if SeqAt.shaped a = true ∧ SeqAt.shaped b = true then some (PyData.eqv a b) else none
    | _, _ => none
def gEq : V2 := fun p q h => match eqD p q h with
  | some b => .ok (.bl b) h
  | none => .no
def gNe : V2 := fun p q h => match eqD p q h with
  | some b => .ok (.bl (!b)) h
  | none => .no
abbrev rEqU (K : PySem.W.Frag) : R2 := fun x y H Q => rEq x y H Q ∨ rEqD K x y H Q
abbrev rNeU (K : PySem.W.Frag) : R2 := fun x y H Q => rNe x y H Q ∨ rNeD K x y H Q
theorem g_eq {K : PySem.W.Frag} {mg : Str → Option Value} : Op2 K mg gEq (rEqU K) := by
  intro m H h p q x y Q Wx rl rp rq po
  unfold gEq eqD at po
  cases e : scE p q with
  | some b =>
    rw [e] at po
    obtain ⟨s, d⟩ := scE_ok rp rq e
    exact .inl ⟨s, by rw [d]; exact po.ok rl (by simp only [RD])⟩
  | none =>
    rw [e] at po
    dsimp only at po
    split at po
    · rename_i b hb
      split at hb
      · rename_i a c ha hc
        split at hb
        · rename_i sh
          cases hb
          exact .inr ⟨_, _, toPh_ok rl rp ha, toPh_ok rl rq hc, sh.1, sh.2, po.ok rl (by simp only [RD])⟩
        · cases hb
      · cases hb
    · exact po.elim
theorem g_ne {K : PySem.W.Frag} {mg : Str → Option Value} : Op2 K mg gNe (rNeU K) := by
  intro m H h p q x y Q Wx rl rp rq po
  unfold gNe eqD at po
  cases e : scE p q with
  | some b =>
    rw [e] at po
    obtain ⟨s, d⟩ := scE_ok rp rq e
    exact .inl ⟨s, by rw [d]; exact po.ok rl (by simp only [RD])⟩
  | none =>
    rw [e] at po
    dsimp only at po
    split at po
    · rename_i b hb
      split at hb
      · rename_i a c ha hc
        split at hb
        · rename_i sh
          cases hb
          exact .inr ⟨_, _, toPh_ok rl rp ha, toPh_ok rl rq hc, sh.1, sh.2, po.ok rl (by simp only [RD])⟩
        · cases hb
      · cases hb
    · exact po.elim
/-! ### order of ints and of texts -/
def gOrd (fi : Int → Int → Bool) (fs : Str → Str → Bool) : V2 := fun p q h => match p, q with
  | .int i, .int j => .ok (.bl (fi i j)) h
  | .str i, .str j => .ok (.bl (fs i j)) h
  | _, _ => .no
abbrev rOrd (fi : Int → Int → Bool) (fs : Str → Str → Bool) : R2 := fun x y H Q => rI0 (fun i j => .bl (fi i j)) x y H Q ∨ (∃ i j, x = .str i ∧ y = .str j ∧ Q (.bl (fs i j)) H)
theorem g_ord {K : PySem.W.Frag} {mg : Str → Option Value} {fi : Int → Int → Bool} {fs : Str → Str → Bool} : Op2 K mg (gOrd fi fs) (rOrd fi fs) := by
  intro m H h p q x y Q Wx rl rp rq po
  unfold gOrd at po
  split at po
  · simp only [RD] at rp rq; subst rp rq
    exact .inl ⟨_, _, rfl, rfl, po.ok rl (by simp only [RD])⟩
  · simp only [RD] at rp rq; subst rp rq
    exact .inr ⟨_, _, rfl, rfl, po.ok rl (by simp only [RD])⟩
  · exact po.elim
abbrev gLt : V2 := gOrd (fun i j => decide (i < j)) fun i j => decide (i.cps.toList < j.cps.toList)
abbrev gLe : V2 := gOrd (fun i j => decide (i ≤ j)) fun i j => !decide (j.cps.toList < i.cps.toList)
abbrev gGt : V2 := gOrd (fun i j => decide (j < i)) fun i j => decide (j.cps.toList < i.cps.toList)
abbrev gGe : V2 := gOrd (fun i j => decide (j ≤ i)) fun i j => !decide (i.cps.toList < j.cps.toList)
/-! ### is -/
def gIs : V2 := fun p q h => match p, q with
  | .non, .non => .ok (.bl true) h
  | _, .non => .ok (.bl false) h
  | .bl a, .bl b => .ok (.bl (decide (a = b))) h
  | _, _ => .no
def gIsNot : V2 := fun p q h => match p, q with
  | .non, .non => .ok (.bl false) h
  | _, .non => .ok (.bl true) h
  | .bl a, .bl b => .ok (.bl (!decide (a = b))) h
  | _, _ => .no
theorem RD.nn {K : PySem.W.Frag} {mg : Str → Option Value} {m : List Addr} {H : Hp} {v : V} : ∀ {d : D}, RD K mg m H d v → (d = .non → False) → v ≠ .non
  | .non, _, h => (h rfl).elim
  | .bl b, r, _ => by simp only [RD] at r; subst r; simp
  | .int b, r, _ => by simp only [RD] at r; subst r; simp
  | .str b, r, _ => by simp only [RD] at r; subst r; simp
  | .tup b, r, _ => by simp only [RD] at r; obtain ⟨a, xs, rfl, _⟩ := r; simp
  | .lst b, r, _ => by simp only [RD] at r; obtain ⟨a, xs, rfl, _⟩ := r; simp
  | .scr b, r, _ => by simp only [RD] at r; obtain ⟨a, xs, rfl, _⟩ := r; simp
  | .dct b, r, _ => by simp only [RD] at r; obtain ⟨a, xs, rfl, _⟩ := r; simp
  | .ins c b, r, _ => by simp only [RD] at r; obtain ⟨a, _, _, xs, rfl, _⟩ := r; simp
  | .ref b, r, _ => by simp only [RD] at r; obtain ⟨a, rfl, _⟩ := r; simp
  | .exn x c b, r, _ => by simp only [RD] at r; obtain ⟨_, _, rfl, _⟩ := r; simp
abbrev rIsU : R2 := fun x y H Q => (y = .non ∧ Q (.bl (decide (x = .non))) H) ∨ rIsB x y H Q
abbrev rNotU : R2 := fun x y H Q => (y = .non ∧ Q (.bl (!decide (x = .non))) H) ∨ rNotB x y H Q
theorem g_is {K : PySem.W.Frag} {mg : Str → Option Value} : Op2 K mg gIs rIsU := by
  intro m H h p q x y Q Wx rl rp rq po
  unfold gIs at po
  split at po
  · simp only [RD] at rp rq; subst rp rq
    exact .inl ⟨rfl, po.ok rl (by simp [RD])⟩
  · rename_i hne
    have hx := rp.nn hne
    simp only [RD] at rq; subst rq
    exact .inl ⟨rfl, po.ok rl (by simp [RD, hx])⟩
  · simp only [RD] at rp rq; subst rp rq
    exact .inr ⟨_, _, rfl, rfl, po.ok rl (by simp only [RD])⟩
  · exact po.elim
theorem g_isNot {K : PySem.W.Frag} {mg : Str → Option Value} : Op2 K mg gIsNot rNotU := by
  intro m H h p q x y Q Wx rl rp rq po
  unfold gIsNot at po
  split at po
  · simp only [RD] at rp rq; subst rp rq
    exact .inl ⟨rfl, po.ok rl (by simp [RD])⟩
  · rename_i hne
    have hx := rp.nn hne
    simp only [RD] at rq; subst rq
    exact .inl ⟨rfl, po.ok rl (by simp [RD, hx])⟩
  · simp only [RD] at rp rq; subst rp rq
    exact .inr ⟨_, _, rfl, rfl, po.ok rl (by simp only [RD])⟩
  · exact po.elim
/-! ### in: a text in a text, a flat thing in flat ones, data in a list of data -/
def flatD : D → Bool
  | .non => true | .bl _ => true | .int _ => true | .str _ => true
  | _ => false
def eqF : D → D → Bool
  | .non, .non => true
  | .bl a, .bl b => a == b
  | .bl a, .int b => (if a then 1 else 0) == b
  | .int a, .bl b => a == (if b then 1 else 0)
  | .int a, .int b => a == b
  | .str a, .str b => a == b
  | _, _ => false
def inD (p q : D) (h : Hs) : Option Bool := match p, q with
  | .str a, .str b => some (!(Builtin.Str.occurrences b a 0 b.length 1).isEmpty)
  | _, _ => match asSq q h with
    | some ds => if flatD p = true ∧ ds.all flatD = true then some (ds.any fun y => eqF y p) else
      match toPh p h, toPs ds, asLst q h with
      | some a, some bs, some _ => if SeqAt.shaped a = true ∧ SeqAt.shaped (.list bs) = true then some (bs.any fun z => PyData.eqv z a) else none
      | _, _, _ => none
    | none => none
def gIn (neg : Bool) : V2 := fun p q h => match inD p q h with
  | some b => .ok (.bl (if neg then !b else b)) h
  | none => .no
theorem flatD_ok {K : PySem.W.Frag} {mg : Str → Option Value} {m : List Addr} {H : Hp} {p : D} {x : V} (r : RD K mg m H p x) (f : flatD p = true) : flatV x = true := by
  cases p <;> first
    | (simp only [RD] at r; subst r; rfl)
    | cases f
theorem eqF_ok {K : PySem.W.Frag} {mg : Str → Option Value} {m : List Addr} {H : Hp} {p q : D} {x y : V} (r : RD K mg m H p x) (r2 : RD K mg m H q y) (f : flatD p = true) (f2 : flatD q = true) : eqV x y = eqF p q := by
  cases p <;> first
    | (simp only [RD] at r; subst r; cases q <;> first
      | (simp only [RD] at r2; subst r2; rfl)
      | cases f2)
    | cases f
theorem inF_ok {K : PySem.W.Frag} {mg : Str → Option Value} {m : List Addr} {H : Hp} {p : D} {x : V} (r : RD K mg m H p x) (f : flatD p = true) : ∀ {ds : List D} {xs : List V}, RDs K mg m H ds xs → ds.all flatD = true → xs.all flatV = true ∧ inV x xs = ds.any fun y => eqF y p
  | [], xs, h, _ => by simp only [RDs] at h; subst h; exact ⟨rfl, rfl⟩
  | d :: ds, xs, h, g => by
    simp only [RDs] at h
    obtain ⟨v, vr, rfl, h1, h2⟩ := h
    simp only [List.all_cons, Bool.and_eq_true] at g
    obtain ⟨i1, i2⟩ := inF_ok r f h2 g.2
    refine ⟨by simp only [List.all_cons, Bool.and_eq_true]; exact ⟨flatD_ok h1 g.1, i1⟩, ?_⟩
    unfold inV at i2 ⊢
    simp only [List.any_cons, i2, eqF_ok h1 r g.1 f]
abbrev rInU (K : PySem.W.Frag) (neg : Bool) : R2 := fun x y H Q => (∃ i j, x = .str i ∧ y = .str j ∧ Q (.bl (if neg then !(!(Builtin.Str.occurrences j i 0 j.length 1).isEmpty) else (!(Builtin.Str.occurrences j i 0 j.length 1).isEmpty))) H) ∨ rIn K neg x y H Q ∨
  ∃ d ds, Dp K H x d ∧ Dp K H y (.list ds) ∧ SeqAt.shaped d = true ∧ SeqAt.shaped (.list ds) = true ∧ Q (.bl (if neg then !(ds.any fun z => PyData.eqv z d) else ds.any fun z => PyData.eqv z d)) H
theorem op_inU {X : Cx} (hu : X.A.units + 65 < cLine) : OpR X (compareOp .In) (rInU X.K false) := op_in_str.or (op_in_seq.or (op_inD hu))
theorem op_notInU {X : Cx} (hu : X.A.units + 65 < cLine) : OpR X (compareOp .NotIn) (rInU X.K true) := op_notIn_str.or (op_notIn_seq.or (op_notInD hu))
theorem g_in {K : PySem.W.Frag} {mg : Str → Option Value} {neg : Bool} : Op2 K mg (gIn neg) (rInU K neg) := by
  intro m H h p q x y Q Wx rl rp rq po
  unfold gIn at po
  split at po
  · rename_i b hb
    unfold inD at hb
    split at hb
    · cases hb
      simp only [RD] at rp rq; subst rp rq
      exact .inl ⟨_, _, rfl, rfl, po.ok rl (by simp only [RD])⟩
    · split at hb
      · rename_i ds hds
        split at hb
        · rename_i hf
          cases hb
          obtain ⟨a, xs, rfl, f, r⟩ := asSq_ok rl rq hds
          obtain ⟨i1, i2⟩ := inF_ok rp hf.1 r hf.2
          exact .inr (.inl ⟨a, xs, rfl, f, flatD_ok rp hf.1, i1, by rw [i2]; exact po.ok rl (by simp only [RD])⟩)
        · split at hb
          · rename_i a bs es h1 h2 h3
            split at hb
            · rename_i sh
              cases hb
              obtain ⟨q', xs, rfl, f, r⟩ := asLst_ok rl rq h3
              have e : ds = es := by
                unfold asSq at hds
                split at hds
                · cases h3
                · cases h3
                · rw [h3] at hds; cases hds; rfl
              subst e
              exact .inr (.inr ⟨_, _, toPh_ok rl rp h1, .lst (SqL.of f) (toPs_ok _ _ _ r h2), sh.1, sh.2, po.ok rl (by simp only [RD])⟩)
            · cases hb
          · cases hb
      · cases hb
  · exact po.elim
section
variable {X : Cx} {pos : Pos} {a b : Expr} {fa fb : SE} {k : Nat}
theorem hu65 (hr : Rm X.A) : X.A.units + 65 < cLine := by have := hr.un; omega
theorem re_eq (hr : Rm X.A) (ha : RE X a fa) (hb : RE X b fb) : RE X (.Compare a [.Eq] [b] pos) (sBin gEq fa fb) := re_cmp (op_eq.or (op_eqD hr.units)) g_eq ha hb
theorem re_ne (hr : Rm X.A) (ha : RE X a fa) (hb : RE X b fb) : RE X (.Compare a [.NotEq] [b] pos) (sBin gNe fa fb) := re_cmp (op_ne.or (op_neD hr.units)) g_ne ha hb
theorem re_lt (ha : RE X a fa) (hb : RE X b fb) : RE X (.Compare a [.Lt] [b] pos) (sBin gLt fa fb) := re_cmp (op_lt.or op_lt_str) g_ord ha hb
theorem re_le (ha : RE X a fa) (hb : RE X b fb) : RE X (.Compare a [.LtE] [b] pos) (sBin gLe fa fb) := re_cmp (op_le.or op_le_str) g_ord ha hb
theorem re_gt (ha : RE X a fa) (hb : RE X b fb) : RE X (.Compare a [.Gt] [b] pos) (sBin gGt fa fb) := re_cmp (op_gt.or op_gt_str) g_ord ha hb
theorem re_ge (ha : RE X a fa) (hb : RE X b fb) : RE X (.Compare a [.GtE] [b] pos) (sBin gGe fa fb) := re_cmp (op_ge.or op_ge_str) g_ord ha hb
theorem re_is (ha : RE X a fa) (hb : RE X b fb) : RE X (.Compare a [.Is] [b] pos) (sBin gIs fa fb) := re_cmp (op_isN.or op_isBl) g_is ha hb
theorem re_isNot (ha : RE X a fa) (hb : RE X b fb) : RE X (.Compare a [.IsNot] [b] pos) (sBin gIsNot fa fb) := re_cmp (op_notN.or op_notBl) g_isNot ha hb
theorem re_in (hr : Rm X.A) (ha : RE X a fa) (hb : RE X b fb) (hm : behindInMarks .In b = false := by rfl) : RE X (.Compare a [.In] [b] pos) (sBin (gIn false) fa fb) := re_cmp (op_inU (hu65 hr)) g_in ha hb hm
theorem re_notIn (hr : Rm X.A) (ha : RE X a fa) (hb : RE X b fb) (hm : behindInMarks .NotIn b = false := by rfl) : RE X (.Compare a [.NotIn] [b] pos) (sBin (gIn true) fa fb) := re_cmp (op_notInU (hu65 hr)) g_in ha hb hm
theorem rt_eq (hr : Rm X.A) (ha : RE X a fa) (hb : RE X b fb) : RT X (.Compare a [.Eq] [b] pos) (sTB (sBin gEq fa fb)) := rt_cmp (op_eq.or (op_eqD hr.units)) g_eq ha hb
theorem rt_ne (hr : Rm X.A) (ha : RE X a fa) (hb : RE X b fb) : RT X (.Compare a [.NotEq] [b] pos) (sTB (sBin gNe fa fb)) := rt_cmp (op_ne.or (op_neD hr.units)) g_ne ha hb
theorem rt_lt (ha : RE X a fa) (hb : RE X b fb) : RT X (.Compare a [.Lt] [b] pos) (sTB (sBin gLt fa fb)) := rt_cmp (op_lt.or op_lt_str) g_ord ha hb
theorem rt_le (ha : RE X a fa) (hb : RE X b fb) : RT X (.Compare a [.LtE] [b] pos) (sTB (sBin gLe fa fb)) := rt_cmp (op_le.or op_le_str) g_ord ha hb
theorem rt_gt (ha : RE X a fa) (hb : RE X b fb) : RT X (.Compare a [.Gt] [b] pos) (sTB (sBin gGt fa fb)) := rt_cmp (op_gt.or op_gt_str) g_ord ha hb
theorem rt_ge (ha : RE X a fa) (hb : RE X b fb) : RT X (.Compare a [.GtE] [b] pos) (sTB (sBin gGe fa fb)) := rt_cmp (op_ge.or op_ge_str) g_ord ha hb
theorem rt_is (ha : RE X a fa) (hb : RE X b fb) : RT X (.Compare a [.Is] [b] pos) (sTB (sBin gIs fa fb)) := rt_cmp (op_isN.or op_isBl) g_is ha hb
theorem rt_isNot (ha : RE X a fa) (hb : RE X b fb) : RT X (.Compare a [.IsNot] [b] pos) (sTB (sBin gIsNot fa fb)) := rt_cmp (op_notN.or op_notBl) g_isNot ha hb
theorem rt_in (hr : Rm X.A) (ha : RE X a fa) (hb : RE X b fb) (hm : behindInMarks .In b = false := by rfl) : RT X (.Compare a [.In] [b] pos) (sTB (sBin (gIn false) fa fb)) := rt_cmp (op_inU (hu65 hr)) g_in ha hb hm
theorem rt_notIn (hr : Rm X.A) (ha : RE X a fa) (hb : RE X b fb) (hm : behindInMarks .NotIn b = false := by rfl) : RT X (.Compare a [.NotIn] [b] pos) (sTB (sBin (gIn true) fa fb)) := rt_cmp (op_notInU (hu65 hr)) g_in ha hb hm
end
/-! ### chains -/
def sChain (g g' : V2) (fa fb fc : SE) : SE := fun ρ h => (fa ρ h).bind fun p h1 => (fb ρ h1).bind fun q h2 => (g p q h2).bind fun r h3 => match r with
  | .bl true => (fc ρ h3).bind fun s h4 => g' q s h4
  | .bl false => .ok (.bl false) h3
  | _ => .no
section
variable {X : Cx} {pos : Pos} {a b c : Expr} {fa fb fc : SE}
theorem le_chain {K : PySem.W.Frag} {mg : Str → Option Value} {g g' : V2} {r r' : R2} (hop : Op2 K mg g r) (hop' : Op2 K mg g' r') {W : WX} {σ : Sl} {H : Hp} {Q : VK} (h : LE K mg W (sChain g g' fa fb fc) σ H Q) : tChain r r' (LE K mg W fa) (LE K mg W fb) (LE K mg W fc) σ H Q := by
  obtain ⟨m, ρ, h, rl, en, p⟩ := h
  refine ⟨m, ρ, h, rl, en, p.bind.mono (fun x H1 ⟨m1, u, h1, e1, r1, ra, p1⟩ => ⟨m1, ρ, h1, r1, en.ext e1, p1.bind.mono (fun y H2 ⟨m2, v, h2, e2, r2, rb, p2⟩ => ?_) fun _ _ _ z => z⟩) fun _ _ _ z => z⟩
  refine hop m2 H2 h2 u v x y _ _ r2 (RD.ext e2 _ _ ra) rb (p2.bind.mono (fun z H3 ⟨m3, w, h3, e3, r3, rc, p3⟩ => ?_) fun _ _ _ z => z)
  cases w with
  | bl b =>
    simp only [RD] at rc; subst rc
    cases b with
    | true =>
      refine ⟨true, rfl, ?_⟩
      rw [if_pos rfl]
      refine ⟨m3, ρ, h3, r3, ((en.ext e1).ext e2).ext e3, p3.bind.mono (fun t H4 ⟨m4, s, h4, e4, r4, rd, p4⟩ => ?_) fun _ _ _ z => z⟩
      exact hop' m4 H4 h4 v s y t Q _ r4 (RD.ext e4 _ _ (RD.ext e3 _ _ rb)) rd p4
    | false =>
      refine ⟨false, rfl, ?_⟩
      rw [if_neg Bool.false_ne_true]
      exact p3.ok r3 (by simp only [RD])
  | _ => exact False.elim p3
theorem re_chain {op op' : CmpOp} {g g' : V2} {r r' : R2} (ho : OpR X (compareOp op) r) (ho' : OpR X (compareOp op') r') (hop : Op2 X.K X.mg g r) (hop' : Op2 X.K X.mg g' r') (ha : RE X a fa) (hb : RE X b fb) (hc : RE X c fc)
    (hm : lastMarks [op, op'] [b, c] = false := by with_unfolding_all rfl) : RE X (.Compare a [op, op'] [b, c] pos) (sChain g g' fa fb fc) :=
  ⟨fun W tk => pe_imp (pe_chain ho ho' (ha.run W tk) (hb.run W tk) (hc.run W tk) hm) fun σ H Q h => le_chain hop hop' h⟩
theorem rt_chain {op op' : CmpOp} {g g' : V2} {r r' : R2} (ho : OpR X (compareOp op) r) (ho' : OpR X (compareOp op') r') (hop : Op2 X.K X.mg g r) (hop' : Op2 X.K X.mg g' r') (ha : RE X a fa) (hb : RE X b fb) (hc : RE X c fc)
    (hm : lastMarks [op, op'] [b, c] = false := by with_unfolding_all rfl) : RT X (.Compare a [op, op'] [b, c] pos) (sTB (sChain g g' fa fb fc)) :=
  ⟨fun W tk => pt_imp (pt_chain ho ho' (ha.run W tk) (hb.run W tk) (hc.run W tk) hm) fun σ H Q ⟨m, ρ, h, rl, en, p⟩ => le_chain hop hop' ⟨m, ρ, h, rl, en, p.bind.mono (fun x H1 ⟨m1, u, h1, e1, r1, ra, p1⟩ => by
    cases u with
    | bl b => simp only [RD] at ra; subst ra; exact ⟨b, rfl, p1.ok r1 rfl⟩
    | _ => exact False.elim p1) fun _ _ _ z => z⟩⟩
end
end G

/-! G4: truth, and/or/not, statements, loops, comprehensions. -/
namespace G
open PySem PySem.Spec PyProof.Rows L2

theorem pe_or {X : Cx} {e : Expr} {t t' : TE} (h : PE X e t) (h' : PE X e t') : PE X e (fun σ H Q => t σ H Q ∨ t' σ H Q) :=
  ⟨fun pins s σ H Q I q => q.elim (h.run pins s σ H Q I) (h'.run pins s σ H Q I)⟩
theorem pi_or {X : Cx} {tg e : Expr} {t t' : TI} (h : PI X tg e t) (h' : PI X tg e t') : PI X tg e (fun σ H Q => t σ H Q ∨ t' σ H Q) :=
  ⟨fun pins s σ H Q I q => q.elim (h.run pins s σ H Q I) (h'.run pins s σ H Q I)⟩
theorem pi_imp {X : Cx} {tg e : Expr} {t t' : TI} (h : PI X tg e t) (k : ∀ σ H R, t' σ H R → t σ H R) : PI X tg e t' := ⟨fun pins s σ H R I q => h.run pins s σ H R I (k σ H R q)⟩

/-! ### truth -/
def truD (d : D) (h : Hs) : Option Bool := match d with
  | .non => some false
  | .bl b => some b
  | .int i => some (i != 0)
  | .str y => if y.length ≤ sizeLine then some ((y.length : Int) != 0) else none
  | _ => match asSq d h with
    | some ds => some (!ds.isEmpty)
    | none => match asDct d h with
      | some kvs => some (!kvs.isEmpty)
      | none => none
theorem RDk.nil_iff {K : PySem.W.Frag} {mg : Str → Option Value} {m : List Addr} {H : Hp} : ∀ {ds : List (Key × D)} {xs : List (Key × V)}, RDk K mg m H ds xs → xs.isEmpty = ds.isEmpty
  | [], xs, h => by simp only [RDk] at h; subst h; rfl
  | (k, d) :: r, xs, h => by simp only [RDk] at h; obtain ⟨v, vr, rfl, _⟩ := h; rfl
theorem truD_ok {K : PySem.W.Frag} {mg : Str → Option Value} {m : List Addr} {H : Hp} {h : Hs} {d : D} {x : V} {b : Bool} (rl : Rel K mg m H h) (r : RD K mg m H d x) (e : truD d h = some b) : TruV K x H b := by
  have sq : ∀ ds, asSq d h = some ds → TruV K x H (!ds.isEmpty) := fun ds hd => by
    obtain ⟨a, xs, rfl, f, r⟩ := asSq_ok rl r hd
    have hl := r.len
    have he : xs.isEmpty = ds.isEmpty := by cases xs <;> cases ds <;> simp at hl ⊢
    rcases f with f | f
    · exact .inl ⟨xs, f, by rw [he]⟩
    · exact .inr (.inl ⟨xs, f, by rw [he]⟩)
  unfold truD at e
  split at e
  · cases e; simp only [RD] at r; subst r; rfl
  · cases e; simp only [RD] at r; subst r; rfl
  · cases e; simp only [RD] at r; subst r; rfl
  · split at e
    · rename_i hz
      cases e; simp only [RD] at r; subst r; exact ⟨hz, rfl⟩
    · cases e
  · split at e
    · rename_i ds hd
      cases e
      exact sq ds hd
    · split at e
      · rename_i kvs hd
        cases e
        obtain ⟨a, xs, rfl, f, r⟩ := asDct_ok rl r hd
        exact .inr (.inr ⟨xs, f, by rw [r.nil_iff]⟩)
      · cases e
def truR (d : D) (h : Hs) : R Bool := match truD d h with
  | some b => .ok b h
  | none => .no
/-- a value as a test -/
def sTru (f : SE) : ST := fun ρ h => (f ρ h).bind truR
section
variable {X : Cx} {pos : Pos} {a b c : Expr} {rest : List Expr} {fa fb : SE} {ta tb tc : ST}
theorem rt_val (ha : RE X a fa) (he : ∀ whole, isTrue a X.env whole = (do let v ← whole; standAt a.pos; holding [v] (truthy v)) := by exact fun _ => rfl) : RT X a (sTru fa) :=
  ⟨fun W tk => pt_imp (pt_truth (ha.run W tk) he) fun σ H Q ⟨m, ρ, h, rl, en, p⟩ => ⟨m, ρ, h, rl, en, p.bind.mono (fun x H1 ⟨m1, d, h1, e1, r1, ra, p1⟩ => by
    unfold truR at p1
    split at p1
    · rename_i k hk
      exact ⟨k, truD_ok r1 ra hk, p1.ok r1 rfl⟩
    · exact p1.elim) fun _ _ _ z => z⟩⟩
def sAnd (f g : ST) : ST := fun ρ h => (f ρ h).bind fun b h1 => match b with
  | true => g ρ h1
  | false => .ok false h1
def sOr (f g : ST) : ST := fun ρ h => (f ρ h).bind fun b h1 => match b with
  | true => .ok true h1
  | false => g ρ h1
def sNot (f : ST) : ST := fun ρ h => (f ρ h).bind fun b h1 => .ok (!b) h1
theorem rw_and1 (ha : RT X a ta) : RW X (.BoolOp .And [a] pos) ta := ⟨fun W tk => pw_and1 (ha.run W tk)⟩
theorem rw_or1 (ha : RT X a ta) : RW X (.BoolOp .Or [a] pos) ta := ⟨fun W tk => pw_or1 (ha.run W tk)⟩
theorem rw_and (ha : RT X a ta) (hb : RW X (.BoolOp .And (b :: rest) pos) tb) : RW X (.BoolOp .And (a :: b :: rest) pos) (sAnd ta tb) :=
  ⟨fun W tk => pw_imp (pw_and (ha.run W tk) (hb.run W tk)) fun σ H Q ⟨m, ρ, h, rl, en, p⟩ => ⟨m, ρ, h, rl, en, p.bind.mono (fun x H1 ⟨m1, d, h1, e1, r1, ra, p1⟩ => by
    cases ra
    cases x with
    | true => rw [if_pos rfl]; exact ⟨m1, ρ, h1, r1, en.ext e1, p1⟩
    | false => rw [if_neg Bool.false_ne_true]; exact p1.ok r1 rfl) fun _ _ _ z => z⟩⟩
theorem rw_or (ha : RT X a ta) (hb : RW X (.BoolOp .Or (b :: rest) pos) tb) : RW X (.BoolOp .Or (a :: b :: rest) pos) (sOr ta tb) :=
  ⟨fun W tk => pw_imp (pw_or (ha.run W tk) (hb.run W tk)) fun σ H Q ⟨m, ρ, h, rl, en, p⟩ => ⟨m, ρ, h, rl, en, p.bind.mono (fun x H1 ⟨m1, d, h1, e1, r1, ra, p1⟩ => by
    cases ra
    cases x with
    | true => rw [if_pos rfl]; exact p1.ok r1 rfl
    | false => rw [if_neg Bool.false_ne_true]; exact ⟨m1, ρ, h1, r1, en.ext e1, p1⟩) fun _ _ _ z => z⟩⟩
theorem RW.rt (h : RW X a ta) : RT X a ta := ⟨fun W tk => (h.run W tk).pt⟩
theorem rt_not (ha : RT X a ta) : RT X (.UnaryOp .Not a pos) (sNot ta) :=
  ⟨fun W tk => pt_imp (pt_not (ha.run W tk)) fun σ H Q ⟨m, ρ, h, rl, en, p⟩ => ⟨m, ρ, h, rl, en, p.bind.mono (fun x H1 ⟨m1, d, h1, e1, r1, ra, p1⟩ => by
    cases ra; exact p1.ok r1 rfl) fun _ _ _ z => z⟩⟩
/-! as values -/
def sAndV (f g : SE) : SE := fun ρ h => (f ρ h).bind fun d h1 => (truR d h1).bind fun b h2 => match b with
  | true => g ρ h2
  | false => .ok d h2
def sOrV (f g : SE) : SE := fun ρ h => (f ρ h).bind fun d h1 => (truR d h1).bind fun b h2 => match b with
  | true => .ok d h2
  | false => g ρ h2
def sNotV (f : SE) : SE := fun ρ h => (f ρ h).bind fun d h1 => (truR d h1).bind fun b h2 => .ok (.bl (!b)) h2
theorem truR_ok {K : PySem.W.Frag} {mg : Str → Option Value} {m : List Addr} {H : Hp} {h : Hs} {d : D} {x : V} {α β : Type} {rel : List Addr → Hp → α → β → Prop} {f : Bool → Hs → R α} {Q : β → Hp → Prop} {Wx : XK} (rl : Rel K mg m H h) (r : RD K mg m H d x)
    (p : Po K mg rel m H ((truR d h).bind f) Q Wx) : ∃ k, TruV K x H k ∧ Po K mg rel m H (f k h) Q Wx := by
  unfold truR at p
  cases e : truD d h with
  | some k => rw [e] at p; exact ⟨k, truD_ok rl r e, p⟩
  | none => rw [e] at p; exact p.elim
theorem re_one {op} (ha : RE X a fa) : RE X (.BoolOp op [a] pos) fa := ⟨fun W tk => pe_one (ha.run W tk)⟩
theorem re_and (ha : RE X a fa) (hb : RE X (.BoolOp .And (b :: rest) pos) fb) : RE X (.BoolOp .And (a :: b :: rest) pos) (sAndV fa fb) :=
  ⟨fun W tk => pe_imp (pe_andT (ha.run W tk) (hb.run W tk)) fun σ H Q ⟨m, ρ, h, rl, en, p⟩ => ⟨m, ρ, h, rl, en, p.bind.mono (fun x H1 ⟨m1, d, h1, e1, r1, ra, p1⟩ => by
    obtain ⟨k, hk, p2⟩ := truR_ok r1 ra p1
    refine ⟨k, hk, ?_⟩
    cases k with
    | true => rw [if_pos rfl]; exact ⟨m1, ρ, h1, r1, en.ext e1, p2⟩
    | false => rw [if_neg Bool.false_ne_true]; exact p2.ok r1 ra) fun _ _ _ z => z⟩⟩
theorem re_or (ha : RE X a fa) (hb : RE X (.BoolOp .Or (b :: rest) pos) fb) : RE X (.BoolOp .Or (a :: b :: rest) pos) (sOrV fa fb) :=
  ⟨fun W tk => pe_imp (pe_orT (ha.run W tk) (hb.run W tk)) fun σ H Q ⟨m, ρ, h, rl, en, p⟩ => ⟨m, ρ, h, rl, en, p.bind.mono (fun x H1 ⟨m1, d, h1, e1, r1, ra, p1⟩ => by
    obtain ⟨k, hk, p2⟩ := truR_ok r1 ra p1
    refine ⟨k, hk, ?_⟩
    cases k with
    | true => rw [if_pos rfl]; exact p2.ok r1 ra
    | false => rw [if_neg Bool.false_ne_true]; exact ⟨m1, ρ, h1, r1, en.ext e1, p2⟩) fun _ _ _ z => z⟩⟩
theorem re_not (ha : RE X a fa) : RE X (.UnaryOp .Not a pos) (sNotV fa) :=
  ⟨fun W tk => pe_imp (pe_notT (ha.run W tk)) fun σ H Q ⟨m, ρ, h, rl, en, p⟩ => ⟨m, ρ, h, rl, en, p.bind.mono (fun x H1 ⟨m1, d, h1, e1, r1, ra, p1⟩ => by
    obtain ⟨k, hk, p2⟩ := truR_ok r1 ra p1
    exact ⟨k, hk, p2.ok r1 (by simp only [RD])⟩) fun _ _ _ z => z⟩⟩
/-- a if t else b -/
def sIte (t : ST) (f g : SE) : SE := fun ρ h => (t ρ h).bind fun b h1 => match b with
  | true => f ρ h1
  | false => g ρ h1
theorem re_ite (hc : RT X c tc) (ha : RE X a fa) (hb : RE X b fb) : RE X (.IfExp c a b pos) (sIte tc fa fb) :=
  ⟨fun W tk => pe_imp (pe_ifExp (hc.run W tk) (ha.run W tk) (hb.run W tk)) fun σ H Q ⟨m, ρ, h, rl, en, p⟩ => ⟨m, ρ, h, rl, en, p.bind.mono (fun x H1 ⟨m1, d, h1, e1, r1, ra, p1⟩ => by
    cases ra
    cases x with
    | true => rw [if_pos rfl]; exact ⟨m1, ρ, h1, r1, en.ext e1, p1⟩
    | false => rw [if_neg Bool.false_ne_true]; exact ⟨m1, ρ, h1, r1, en.ext e1, p1⟩) fun _ _ _ z => z⟩⟩
end

/-! ### targets: names, tuples of names -/
/-- what a target does with a value; ws: the slots that it writes -/
structure TgOk (K : PySem.W.Frag) (g : TG) (f : D → Ev → Option Ev) (ws : List Nat) : Prop where
  go : ∀ (mg : Str → Option Value) (m : List Addr) (H : Hp) (d : D) (v : V) (ρ ρ' : Ev) (σ : Sl) (Q : Sl → Hp → Prop), RD K mg m H d v → REnv K mg m H ρ σ → f d ρ = some ρ' →
    (∀ σ', REnv K mg m H ρ' σ' → σ'.length = σ.length → (∀ j, j ∉ ws → σ'[j]? = σ[j]?) → Q σ' H) → g v σ H Q
structure TgsOk (K : PySem.W.Frag) (g : TGs) (f : List D → Ev → Option Ev) (ws : List Nat) : Prop where
  go : ∀ (mg : Str → Option Value) (m : List Addr) (H : Hp) (d : List D) (v : List V) (ρ ρ' : Ev) (σ : Sl) (Q : Sl → Hp → Prop), RDs K mg m H d v → REnv K mg m H ρ σ → f d ρ = some ρ' →
    (∀ σ', REnv K mg m H ρ' σ' → σ'.length = σ.length → (∀ j, j ∉ ws → σ'[j]? = σ[j]?) → Q σ' H) → g v σ H Q
def fName (i : Nat) : D → Ev → Option Ev := fun d ρ => some (ρ.set i (some d))
def fNil : List D → Ev → Option Ev := fun ds ρ => match ds with
  | [] => some ρ
  | _ => none
def fCons (f : D → Ev → Option Ev) (g : List D → Ev → Option Ev) : List D → Ev → Option Ev := fun ds ρ => match ds with
  | d :: r => (f d ρ).bind fun ρ1 => g r ρ1
  | [] => none
def fTup (n : Nat) (f : List D → Ev → Option Ev) : D → Ev → Option Ev := fun d ρ => match d with
  | .tup ds => if ds.length = n then f ds ρ else none
  | .lst ds => if ds.length = n then f ds ρ else none
  | _ => none
/-- a tuple or a list is unpacked -/
def gTupL (K : PySem.W.Frag) (n : Nat) (t : TGs) : TG := fun v σ H Q => gTup K n t v σ H Q ∨ gLst K n t v σ H Q
theorem pg_tupL {X : Cx} {pos : Pos} {es : List Expr} {k : Nat} {t : TGs} {n : Nat} (hc : X.calm = true) (h : PGs X es t) (hn : (assignEach es X.env).length = n := by rfl) (hst : (assignEach es X.env).findIdx? (·.1) = none := by rfl) : PG X (.Tuple es k pos) (gTupL X.K n t) :=
  ⟨fun pins s σ H v u Q I r q => q.elim ((pg_tup hc h hn hst).run pins s σ H v u Q I r) ((pg_lst hc h hn hst).run pins s σ H v u Q I r)⟩
section
variable {K : PySem.W.Frag}
theorem tg_name (i : Nat) : TgOk K (gName i) (fName i) [i] := ⟨fun mg m H d v ρ ρ' σ Q r en e q => by
  cases e
  refine q _ (en.set i r) (by simp) fun j hj => ?_
  rw [List.getElem?_set_ne (fun z => hj (by simp [z]))]⟩
theorem tg_nil : TgsOk K gNil fNil [] := ⟨fun mg m H d v ρ ρ' σ Q r en e q => by
  unfold fNil at e
  split at e
  · cases e
    simp only [RDs] at r
    exact ⟨r, q _ en rfl fun _ _ => rfl⟩
  · cases e⟩
theorem tg_cons {g : TG} {gs : TGs} {f : D → Ev → Option Ev} {fs : List D → Ev → Option Ev} {w ws : List Nat} (h : TgOk K g f w) (hs : TgsOk K gs fs ws) : TgsOk K (gCons g gs) (fCons f fs) (w ++ ws) := ⟨fun mg m H d v ρ ρ' σ Q r en e q => by
  unfold fCons at e
  split at e
  · rename_i d r'
    simp only [RDs] at r
    obtain ⟨v, vr, rfl, h1, h2⟩ := r
    obtain ⟨ρ1, e1, e2⟩ := Option.bind_eq_some_iff.mp e
    refine ⟨v, vr, rfl, h.go mg m H d v ρ ρ1 σ _ h1 en e1 fun σ1 en1 l1 k1 => ?_⟩
    refine hs.go mg m H r' vr ρ1 ρ' σ1 Q h2 en1 e2 fun σ2 en2 l2 k2 => q σ2 en2 (l2.trans l1) fun j hj => ?_
    rw [List.mem_append, not_or] at hj
    exact (k2 j hj.2).trans (k1 j hj.1)
  · cases e⟩
theorem tg_tup {n : Nat} {gs : TGs} {fs : List D → Ev → Option Ev} {ws : List Nat} (hs : TgsOk K gs fs ws) : TgOk K (gTupL K n gs) (fTup n fs) ws := ⟨fun mg m H d v ρ ρ' σ Q r en e q => by
  unfold fTup at e
  split at e
  · rename_i ds
    split at e
    · rename_i hl
      obtain ⟨a, xs, rfl, hx, rs⟩ := r.tup_sq
      exact .inl ⟨a, xs, rfl, hx, by rw [← rs.len]; exact hl, hs.go mg m H ds xs ρ ρ' σ Q rs en e q⟩
    · cases e
  · rename_i ds
    split at e
    · rename_i hl
      simp only [RD] at r
      obtain ⟨a, xs, rfl, hx, _, rs⟩ := r
      exact .inr ⟨a, xs, rfl, SqL.of hx, by rw [← rs.len]; exact hl, hs.go mg m H ds xs ρ ρ' σ Q rs en e q⟩
    · cases e
  · cases e⟩
end

/-! ### statements -/
def R.toS {α : Type} (r : R α) (ρ : Ev) (k : α → Hs → RS) : RS := match r with
  | .ok a h => k a h
  | .er e h => .er e ρ h
  | .no => .no
section
variable {K : PySem.W.Frag} {mg : Str → Option Value} {m m' : List Addr} {H H' : Hp} {α β : Type} {rel : List Addr → Hp → α → β → Prop}
theorem PoS.toS {r : R α} {ρ : Ev} {σ : Sl} {k : α → Hs → RS} {D : Ends} {W : WX} (en : REnv K mg m H ρ σ) (p : PoS K mg m H (r.toS ρ k) D W) :
    Po K mg rel m H r (fun b H1 => ∃ m1 a h1, Ext m H m1 H1 ∧ Rel K mg m1 H1 h1 ∧ rel m1 H1 a b ∧ PoS K mg m1 H1 (k a h1) D W) (fun c dd H' => W c dd σ H') := by
  cases r with
  | ok a h => exact fun m1 H1 b e r q => ⟨m1, a, h, e, r, q, p.ext e⟩
  | er x h => exact fun m1 H1 c dd e r x => p m1 H1 σ c dd e r (en.ext e) x
  | no => exact p
theorem PoS.nx {ρ : Ev} {h : Hs} {σ : Sl} {D : Ends} {W : WX} (p : PoS K mg m H (.nx ρ h) D W) (r : Rel K mg m H h) (en : REnv K mg m H ρ σ) : D.nx σ H := p m H σ (Ext.refl _ _) r en
end
def sNext : SS := fun ρ h => .nx ρ h
def sSeq (f g : SS) : SS := fun ρ h => match f ρ h with
  | .nx ρ1 h1 => g ρ1 h1
  | .rt d h1 => .rt d h1
  | .bk ρ1 h1 => .bk ρ1 h1
  | .ct ρ1 h1 => .ct ρ1 h1
  | .er e ρ1 h1 => .er e ρ1 h1
  | .no => .no
def sDrop (f : SE) : SS := fun ρ h => (f ρ h).toS ρ fun _ h1 => .nx ρ h1
def sRet (f : SE) : SS := fun ρ h => (f ρ h).toS ρ fun d h1 => .rt d h1
def sSet (i : Nat) (f : SE) : SS := fun ρ h => (f ρ h).toS ρ fun d h1 => .nx (ρ.set i (some d)) h1
def sAsg (f : SE) (t : D → Ev → Option Ev) : SS := fun ρ h => (f ρ h).toS ρ fun d h1 => match t d ρ with
  | some ρ' => .nx ρ' h1
  | none => .no
def sIf (t : ST) (f g : SS) : SS := fun ρ h => (t ρ h).toS ρ fun b h1 => match b with
  | true => f ρ h1
  | false => g ρ h1
def sPar (i j : Nat) (f : SA) : SS := fun ρ h => (f ρ h).toS ρ fun ds h1 => match ds with
  | [a, b] => .nx ((ρ.set i (some a)).set j (some b)) h1
  | _ => .no
def sPar3 (i j l : Nat) (f : SA) : SS := fun ρ h => (f ρ h).toS ρ fun ds h1 => match ds with
  | [a, b, c] => .nx (((ρ.set i (some a)).set j (some b)).set l (some c)) h1
  | _ => .no
def sNever : SS := fun _ _ => .no
section
variable {X : Cx} {pos : Pos} {e : Expr} {st : Stmt} {rest : List Stmt} {f g : SS} {fe : SE} {fa : SA}
theorem rs_nil : RSs X [] sNext := ⟨fun W _ => pss_imp pss_nil fun D σ H ⟨m, ρ, h, rl, en, p⟩ => p.nx rl en⟩
theorem rs_cons (h1 : RSt X st f) (h2 : RSs X rest g) : RSs X (st :: rest) (sSeq f g) :=
  ⟨fun W tk => pss_imp (pss_cons (h1.run W tk) (h2.run W tk)) fun D σ H ⟨m, ρ, h, rl, en, p⟩ => ⟨m, ρ, h, rl, en, by
    unfold sSeq at p
    cases q : f ρ h with
    | nx ρ1 h1 => rw [q] at p; exact fun m1 H1 σ1 e1 r1 en1 => ⟨m1, ρ1, h1, r1, en1, p.ext e1⟩
    | rt d h1 => rw [q] at p; exact p
    | bk ρ1 h1 => rw [q] at p; exact p
    | ct ρ1 h1 => rw [q] at p; exact p
    | er e ρ1 h1 => rw [q] at p; exact p
    | no => rw [q] at p; exact p⟩⟩
theorem rs_one (h1 : RSt X st f) : RSs X [st] f := ⟨fun W tk => pss_one (h1.run W tk)⟩
theorem rs_never : RSt X st sNever := ⟨fun W _ => ps_imp ps_never fun D σ H ⟨m, ρ, h, rl, en, p⟩ => p⟩
theorem rss_never {sts : List Stmt} : RSs X sts sNever := ⟨fun W _ => pss_imp pss_never fun D σ H ⟨m, ρ, h, rl, en, p⟩ => p⟩
theorem rs_pass : RSt X (.Pass pos) sNext := ⟨fun W _ => ps_imp ps_pass fun D σ H ⟨m, ρ, h, rl, en, p⟩ => p.nx rl en⟩
def sBreak : SS := fun ρ h => .bk ρ h
def sCont : SS := fun ρ h => .ct ρ h
theorem rs_break : RSt X (.Break pos) sBreak := ⟨fun W _ => ps_imp ps_break fun D σ H ⟨m, ρ, h, rl, en, p⟩ => p m H σ (Ext.refl _ _) rl en⟩
theorem rs_continue : RSt X (.Continue pos) sCont := ⟨fun W _ => ps_imp ps_continue fun D σ H ⟨m, ρ, h, rl, en, p⟩ => p m H σ (Ext.refl _ _) rl en⟩
theorem rs_doc {x j pos'} : RSt X (.Expr (.Constant (.str x) j pos) pos') sNext := ⟨fun W _ => ps_imp ps_doc fun D σ H ⟨m, ρ, h, rl, en, p⟩ => p.nx rl en⟩
theorem rs_expr (he : RE X e fe) (hs : swapsWith e none pos.line X.env = pure false := by rfl) : RSt X (.Expr e pos) (sDrop fe) :=
  ⟨fun W tk => ps_imp (ps_expr (he.run W tk) hs) fun D σ H ⟨m, ρ, h, rl, en, p⟩ => ⟨m, ρ, h, rl, en, (p.toS en).mono (fun x H1 ⟨m1, d, h1, e1, r1, ra, p1⟩ => p1.nx r1 (en.ext e1)) fun _ _ _ z => z⟩⟩
theorem rs_ret (he : RE X e fe) : RSt X (.Return (some e) pos) (sRet fe) :=
  ⟨fun W tk => ps_imp (ps_ret (he.run W tk)) fun D σ H ⟨m, ρ, h, rl, en, p⟩ => ⟨m, ρ, h, rl, en, (p.toS en).mono (fun x H1 ⟨m1, d, h1, e1, r1, ra, p1⟩ => p1 m1 H1 x (Ext.refl _ _) r1 ra) fun _ _ _ z => z⟩⟩
theorem rs_retN : RSt X (.Return none pos) (sRet (sC .non)) :=
  ⟨fun W tk => ps_imp ps_retN fun D σ H ⟨m, ρ, h, rl, en, p⟩ => p m H .non (Ext.refl _ _) rl (by simp only [RD])⟩
theorem rs_if {c : Expr} {a b : List Stmt} {tc : ST} (hc : RT X c tc) (ha : RSs X a f) (hb : RSs X b g) : RSt X (.If c a b pos) (sIf tc f g) :=
  ⟨fun W tk => ps_imp (ps_if (hc.run W tk) (ha.run W tk) (hb.run W tk)) fun D σ H ⟨m, ρ, h, rl, en, p⟩ => ⟨m, ρ, h, rl, en, (p.toS en).mono (fun x H1 ⟨m1, d, h1, e1, r1, ra, p1⟩ => by
    cases ra
    cases x with
    | true => rw [if_pos rfl]; exact ⟨m1, ρ, h1, r1, en.ext e1, p1⟩
    | false => rw [if_neg Bool.false_ne_true]; exact ⟨m1, ρ, h1, r1, en.ext e1, p1⟩) fun _ _ _ z => z⟩⟩
theorem rs_set {i : Nat} {x : Str} {pos' : Pos} (hN : X.N.Nodup) (hi : X.N[i]? = some x) (hx : Loc X.env.scope x) (he : RE X e fe) (hs : swapsWith e (some (.Name x pos')) pos.line X.env = pure false := by rfl)
    (hf : X.fn x = true ∨ X.env.scope.names.lookup x = some .local := by first | exact .inl rfl | exact .inr rfl | assumption) : RSt X (.Assign [.Name x pos'] e pos) (sSet i fe) :=
  ⟨fun W tk => ps_imp (ps_set hN hi hx (he.run W tk) hs hf) fun D σ H ⟨m, ρ, h, rl, en, p⟩ => ⟨m, ρ, h, rl, en, (p.toS en).mono (fun x H1 ⟨m1, d, h1, e1, r1, ra, p1⟩ => p1.nx r1 ((en.ext e1).set i ra)) fun _ _ _ z => z⟩⟩
theorem rs_asg {tg : Expr} {t : TG} {ft : D → Ev → Option Ev} {ws : List Nat} (he : RE X e fe) (hg : PG X tg t) (ht : TgOk X.K t ft ws) (hs : swapsWithSole [tg] e pos.line X.env = pure false := by rfl) (hw : swappedStores [tg] e X.env = pure none := by rfl)
    (h1 : (assignEach [tg] X.env).map (·.2) = [assign tg X.env] := by rfl) : RSt X (.Assign [tg] e pos) (sAsg fe ft) :=
  ⟨fun W tk => ps_imp (ps_asg (he.run W tk) hg hs hw h1) fun D σ H ⟨m, ρ, h, rl, en, p⟩ => ⟨m, ρ, h, rl, en, (p.toS en).mono (fun x H1 ⟨m1, d, h1, e1, r1, ra, p1⟩ => by
    cases q : ft d ρ with
    | some ρ' => rw [q] at p1; exact ht.go _ m1 H1 d x ρ ρ' σ _ ra (en.ext e1) q fun σ' en' _ _ => p1.nx r1 en'
    | none => rw [q] at p1; exact p1.elim) fun _ _ _ z => z⟩⟩
theorem rs_par {i j : Nat} {x y : Str} {a b : Expr} {px py pt : Pos} {kt k2 pt2} (hc : X.calm = true) (hN : X.N.Nodup) (hi : X.N[i]? = some x) (hj : X.N[j]? = some y) (hij : i ≠ j)
    (hx : X.env.scope.names.lookup x = some .local) (hy : X.env.scope.names.lookup y = some .local) (ha : RA X [a, b] fa)
    (hw : swappedStores [.Tuple [.Name x px, .Name y py] kt pt] (.Tuple [a, b] k2 pt2) X.env = pure (some [x, y]))
    (hs : swapsWithSole [.Tuple [.Name x px, .Name y py] kt pt] (.Tuple [a, b] k2 pt2) pos.line X.env = pure false := by rfl) :
    RSt X (.Assign [.Tuple [.Name x px, .Name y py] kt pt] (.Tuple [a, b] k2 pt2) pos) (sPar i j fa) :=
  ⟨fun W tk => ps_imp (ps_par hc hN hi hj hij hx hy (ha.run W tk) hw hs) fun D σ H ⟨m, ρ, h, rl, en, p⟩ => ⟨m, ρ, h, rl, en, (p.toS en).mono (fun xs H1 ⟨m1, ds, h1, e1, r1, ra, p1⟩ => by
    split at p1
    · rename_i a b
      simp only [RDs] at ra
      obtain ⟨v, _, rfl, ra, w, _, rfl, rb, rfl⟩ := ra
      exact ⟨v, w, rfl, p1.nx r1 (((en.ext e1).set i ra).set j rb)⟩
    · exact p1.elim) fun _ _ _ z => z⟩⟩
theorem rs_par3 {i j l : Nat} {x y z : Str} {a b c : Expr} {px py pz pt : Pos} {kt k2 pt2} (hc : X.calm = true) (hN : X.N.Nodup) (hi : X.N[i]? = some x) (hj : X.N[j]? = some y) (hl : X.N[l]? = some z) (hij : i ≠ j) (hil : i ≠ l) (hjl : j ≠ l)
    (hx : X.env.scope.names.lookup x = some .local) (hy : X.env.scope.names.lookup y = some .local) (hz : X.env.scope.names.lookup z = some .local) (ha : RA X [a, b, c] fa)
    (hw : swappedStores [.Tuple [.Name x px, .Name y py, .Name z pz] kt pt] (.Tuple [a, b, c] k2 pt2) X.env = pure (some [x, y, z]))
    (hs : swapsWithSole [.Tuple [.Name x px, .Name y py, .Name z pz] kt pt] (.Tuple [a, b, c] k2 pt2) pos.line X.env = pure false := by rfl) :
    RSt X (.Assign [.Tuple [.Name x px, .Name y py, .Name z pz] kt pt] (.Tuple [a, b, c] k2 pt2) pos) (sPar3 i j l fa) :=
  ⟨fun W tk => ps_imp (ps_par3 hc hN hi hj hl hij hil hjl hx hy hz (ha.run W tk) hw hs) fun D σ H ⟨m, ρ, h, rl, en, p⟩ => ⟨m, ρ, h, rl, en, (p.toS en).mono (fun xs H1 ⟨m1, ds, h1, e1, r1, ra, p1⟩ => by
    split at p1
    · rename_i a b c
      simp only [RDs] at ra
      obtain ⟨v, _, rfl, ra, w, _, rfl, rb, w2, _, rfl, rc, rfl⟩ := ra
      exact ⟨v, w, w2, rfl, p1.nx r1 ((((en.ext e1).set i ra).set j rb).set l rc)⟩
    · exact p1.elim) fun _ _ _ z => z⟩⟩
end
end G

/-! G5: loops, comprehensions. -/
namespace G
open PySem PySem.Spec PyProof.Rows L2

theorem RD.tup_fz {K : PySem.W.Frag} {mg : Str → Option Value} {m : List Addr} {H : Hp} {ds : List D} {v : V} (r : RD K mg m H (.tup ds) v) : ∃ a xs, v = .ref a ∧ FzT K m H a xs ∧ RDs K mg m H ds xs := by simpa only [RD] using r
/-! ### what is walked -/
/-- the items, and what must stay as it is while they are walked -/
abbrev Src := List D × (Hs → Prop)
abbrev SI := Ev → Hs → R Src
def ItOk (K : PySem.W.Frag) (mg : Str → Option Value) (m : List Addr) (H : Hp) (J : It) (s : Src) : Prop :=
  ∀ (m2 : List Addr) (H2 : Hp) (h2 : Hs), Ext m H m2 H2 → Rel K mg m2 H2 h2 → s.2 h2 → ∀ i : Nat,
    (∀ d, s.1[i]? = some d → J.go i H2 ∧ ∀ x H3, J.yld i H2 x H3 → Ext m2 H2 m2 H3 ∧ Rel K mg m2 H3 h2 ∧ RD K mg m2 H3 d x) ∧ (s.1.length ≤ i → J.stop i H2)
def LI (K : PySem.W.Frag) (mg : Str → Option Value) (W : WX) (f : SI) : TI := fun σ H R => ∃ m ρ h, Rel K mg m H h ∧ REnv K mg m H ρ σ ∧ Po K mg (fun m1 H1 s J => ItOk K mg m1 H1 J s) m H (f ρ h) R (fun c dd H' => W c dd σ H')
structure RI (X : Cx) (tg iter : Expr) (f : SI) : Prop where
  run : ∀ W, Takes X W → PI X tg iter (LI X.K X.mg W f)
def rel0 : Hs → Prop := fun _ => True
/-- a list, a tuple, a text -/
def srcOf (d : D) (h : Hs) : Option Src := match d with
  | .lst ds => some (ds, rel0)
  | .scr ds => some (ds, rel0)
  | .tup ds => some (ds, rel0)
  | .str z => some (z.cps.toList.map fun c => .str ⟨#[c]⟩, rel0)
  | .ref n => match h[n]? with
    | some (.lst ds) => some (ds, fun h' => h'[n]? = some (.lst ds))
    | _ => none
  | _ => none
def iSq (f : SE) : SI := fun ρ h => (f ρ h).bind fun d h1 => match srcOf d h1 with
  | some s => .ok s h1
  | none => .no
section
variable {K : PySem.W.Frag} {mg : Str → Option Value} {m : List Addr} {H : Hp} {h : Hs}
theorem sqL_inj {xs ys : List V} {a : Addr} (h1 : H a = some (.lst xs)) (h2 : SqL K H a ys) (hK : K.lookup a = none) : ys = xs := by
  rcases h2 with (h2 | ⟨o, h2⟩) | ⟨o, its, n, h2, _⟩
  · rw [h1] at h2; cases h2; rfl
  · rw [h1] at h2; cases h2
  · rw [hK] at h2; cases h2
end
/-- over a sequence at a: its items -/
theorem itok_L {K : PySem.W.Frag} {mg : Str → Option Value} {m : List Addr} {H : Hp} {a : Addr} {ds : List D} {ok : Hs → Prop}
    (hs : ∀ (m2 : List Addr) (H2 : Hp) (h2 : Hs), Ext m H m2 H2 → Rel K mg m2 H2 h2 → ok h2 → ∃ xs, SqL K H2 a xs ∧ RDs K mg m2 H2 ds xs) : ItOk K mg m H (Itl K a) (ds, ok) := by
  intro m2 H2 h2 e r o i
  obtain ⟨xs, hx, rd⟩ := hs m2 H2 h2 e r o
  refine ⟨fun d hd => ?_, fun hl => ⟨xs, hx, by rw [← rd.len]; exact hl⟩⟩
  obtain ⟨v, hv, rv⟩ := rd.get hd
  refine ⟨⟨xs, v, hx, hv⟩, fun x H3 ⟨e3, y⟩ => ?_⟩
  subst e3
  have := y xs hx
  rw [hv] at this; cases this
  exact ⟨Ext.refl _ _, r, rv⟩
theorem itok_T {K : PySem.W.Frag} {mg : Str → Option Value} {m : List Addr} {H : Hp} {a : Addr} {ds : List D} {ok : Hs → Prop}
    (hs : ∀ (m2 : List Addr) (H2 : Hp) (h2 : Hs), Ext m H m2 H2 → Rel K mg m2 H2 h2 → ok h2 → ∃ xs, SqT K H2 a xs ∧ RDs K mg m2 H2 ds xs) : ItOk K mg m H (Itt K a) (ds, ok) := by
  intro m2 H2 h2 e r o i
  obtain ⟨xs, hx, rd⟩ := hs m2 H2 h2 e r o
  refine ⟨fun d hd => ?_, fun hl => ⟨xs, hx, by rw [← rd.len]; exact hl⟩⟩
  obtain ⟨v, hv, rv⟩ := rd.get hd
  refine ⟨⟨xs, v, hx, hv⟩, fun x H3 ⟨e3, y⟩ => ?_⟩
  subst e3
  have := y xs hx
  rw [hv] at this; cases this
  exact ⟨Ext.refl _ _, r, rv⟩
section
variable {X : Cx} {tg e : Expr} {fe : SE} {pos : Pos}
theorem ri_sq (he : RE X e fe) : RI X tg e (iSq fe) := ⟨fun W tk => pi_imp (pi_or (pi_list (he.run W tk)) (pi_or (pi_tup (he.run W tk)) (pi_str (he.run W tk)))) fun σ H Rr ⟨m, ρ, h, rl, en, p⟩ => by
  -- by what the value is
  have key : ∀ (P : VK), (∀ (x : V) (H1 : Hp) (m1 : List Addr) (d : D) (h1 : Hs), Ext m H m1 H1 → Rel X.K X.mg m1 H1 h1 → RD X.K X.mg m1 H1 d x → (fe ρ h = .ok d h1) → P x H1) → (∀ d h1, fe ρ h = .ok d h1 → (srcOf d h1).isSome) → LE X.K X.mg W fe σ H P := fun P hP _ => by
    refine ⟨m, ρ, h, rl, en, ?_⟩
    unfold iSq at p
    cases q : fe ρ h with
    | ok d h1 => rw [q] at p; exact fun m1 H1 b e1 r1 rb => hP b H1 m1 d h1 e1 r1 rb q
    | er x h1 => rw [q] at p; exact p
    | no => rw [q] at p; exact p.elim
  have some_ : ∀ d h1, fe ρ h = .ok d h1 → (srcOf d h1).isSome := fun d h1 q => by
    unfold iSq at p
    rw [q] at p
    simp only [R.bind] at p
    cases z : srcOf d h1 with
    | some s => rfl
    | none => rw [z] at p; exact p.elim
  unfold iSq at p
  cases q : fe ρ h with
  | no => rw [q] at p; exact p.elim
  | er x h1 => refine .inl ⟨m, ρ, h, rl, en, ?_⟩; rw [q] at p ⊢; exact p
  | ok d h1 =>
    rw [q] at p
    simp only [R.bind] at p
    cases z : srcOf d h1 with
    | none => rw [z] at p; exact p.elim
    | some s =>
      rw [z] at p
      have p' : ∀ m1 H1 J, Ext m H m1 H1 → Rel X.K X.mg m1 H1 h1 → ItOk X.K X.mg m1 H1 J s → Rr J H1 := p
      unfold srcOf at z
      split at z
      · rename_i ds
        cases z
        refine .inl (key _ (fun x H1 m1 d' h1' e1 r1 rd q' => ?_) some_)
        rw [q] at q'; cases q'
        obtain ⟨a, xs, rfl, f, n, r⟩ := (by simpa only [RD] using rd : ∃ a xs, x = V.ref a ∧ H1 a = some (.lst xs) ∧ a ∉ m1 ∧ RDs X.K X.mg m1 H1 ds xs)
        exact ⟨a, rfl, ⟨xs, SqL.of f⟩, p' m1 H1 _ e1 r1 (itok_L fun m2 H2 h2 e2 r2 _ => ⟨xs, SqL.of (e2.keep _ _ f n), RDs.ext e2 _ _ r⟩)⟩
      · rename_i ds
        cases z
        refine .inl (key _ (fun x H1 m1 d' h1' e1 r1 rd q' => ?_) some_)
        rw [q] at q'; cases q'
        obtain ⟨a, xs, rfl, f, r⟩ := (by simpa only [RD] using rd : ∃ a xs, x = V.ref a ∧ FzL X.K m1 H1 a xs ∧ RDs X.K X.mg m1 H1 ds xs)
        exact ⟨a, rfl, ⟨xs, f.sq⟩, p' m1 H1 _ e1 r1 (itok_L fun m2 H2 h2 e2 r2 _ => ⟨xs, (f.ext e2).sq, RDs.ext e2 _ _ r⟩)⟩
      · rename_i ds
        cases z
        refine .inr (.inl (key _ (fun x H1 m1 d' h1' e1 r1 rd q' => ?_) some_))
        rw [q] at q'; cases q'
        obtain ⟨a, xs, rfl, f, r⟩ := (by simpa only [RD] using rd : ∃ a xs, x = V.ref a ∧ FzT X.K m1 H1 a xs ∧ RDs X.K X.mg m1 H1 ds xs)
        exact ⟨a, rfl, ⟨xs, f.sq⟩, p' m1 H1 _ e1 r1 (itok_T fun m2 H2 h2 e2 r2 _ => ⟨xs, (f.ext e2).sq, RDs.ext e2 _ _ r⟩)⟩
      · rename_i y
        cases z
        refine .inr (.inr (key _ (fun x H1 m1 d' h1' e1 r1 rd q' => ?_) some_))
        rw [q] at q'; cases q'
        simp only [RD] at rd
        subst rd
        refine ⟨y, rfl, p' m1 H1 _ e1 r1 fun m2 H2 h2 e2 r2 _ i => ⟨fun d hd => ?_, fun hl => ?_⟩⟩
        · simp only [List.getElem?_map, Option.map_eq_some_iff] at hd
          obtain ⟨c, hc, rfl⟩ := hd
          rw [Array.getElem?_toList] at hc
          refine ⟨(Array.getElem?_eq_some_iff.mp hc).1, fun x H3 ⟨e3, c', hc', hx⟩ => ?_⟩
          subst e3
          rw [hc] at hc'; cases hc'
          exact ⟨Ext.refl _ _, r2, by simp only [RD]; exact hx⟩
        · have hl' : (y.cps.toList.map fun c => D.str ⟨#[c]⟩).length ≤ i := hl
          rw [List.length_map, Array.length_toList] at hl'
          exact hl'
      · split at z
        · rename_i n _ ds hn
          cases z
          refine .inl (key _ (fun x H1 m1 d' h1' e1 r1 rd q' => ?_) some_)
          rw [q] at q'; cases q'
          simp only [RD] at rd
          obtain ⟨a, rfl, ha⟩ := rd
          obtain ⟨xs, f, r⟩ := r1.ob _ _ _ hn ha
          exact ⟨a, rfl, ⟨xs, SqL.of f⟩, p' m1 H1 _ e1 r1 (itok_L fun m2 H2 h2 e2 r2 o => by
            obtain ⟨xs2, f2, r2'⟩ := r2.ob _ _ _ o (e2.get ha)
            exact ⟨xs2, SqL.of f2, r2'⟩)⟩
        · cases z
      · cases z⟩
/-- range(n), range(a, b) -/
def rngD (a b : Int) : List D := (List.range (b - a).toNat).map fun i : Nat => D.int (a + (i : Nat))
def inR (a : Int) : Prop := -(2 ^ 62) ≤ a ∧ a < 2 ^ 62
instance (a : Int) : Decidable (inR a) := by unfold inR; infer_instance
def iRg1 (f : SE) : SI := fun ρ h => (f ρ h).bind fun d h1 => match d with
  | .int b => if inR b then .ok (rngD 0 b, rel0) h1 else .no
  | _ => .no
def iRg2 (f g : SE) : SI := fun ρ h => (f ρ h).bind fun d h1 => (g ρ h1).bind fun d2 h2 => match d, d2 with
  | .int a, .int b => if inR a ∧ inR b then .ok (rngD a b, rel0) h2 else .no
  | _, _ => .no
theorem itok_rng {K : PySem.W.Frag} {mg : Str → Option Value} {m : List Addr} {H : Hp} {a b : Int} : ItOk K mg m H (Itr a (b - a).toNat) (rngD a b, rel0) := fun m2 H2 h2 e2 r2 _ i => by
  refine ⟨fun d hd => ?_, fun hl => ?_⟩
  · have hd' : ((List.range (b - a).toNat).map fun i : Nat => D.int (a + (i : Nat)))[i]? = some d := hd
    simp only [List.getElem?_map, Option.map_eq_some_iff] at hd'
    obtain ⟨c, hc, rfl⟩ := hd'
    obtain ⟨hl, hc'⟩ := List.getElem?_eq_some_iff.mp hc
    rw [List.getElem_range] at hc'
    subst hc'
    rw [List.length_range] at hl
    refine ⟨hl, fun x H3 ⟨e3, hx⟩ => ?_⟩
    subst e3
    exact ⟨Ext.refl _ _, r2, by simp only [RD]; exact hx⟩
  · have hl' : (rngD a b).length ≤ i := hl
    unfold rngD at hl'
    rw [List.length_map, List.length_range] at hl'
    exact hl'
variable {a b : Expr} {p : Pos} {fa fb : SE}
theorem ri_rg1 (hg : Gl X "range") (hm : X.mg "range" = none) (ha : RE X a fa) (hs : starEach [a] X.env = [(false, eval a X.env)] := by rfl) : RI X tg (.Call (.Name "range" p) [a] [] pos) (iRg1 fa) :=
  ⟨fun W tk => pi_imp (pi_range1 hg hm (pa_cons (ha.run W tk) pa_nil hs) hs) fun σ H Rr ⟨m, ρ, h, rl, en, p⟩ => ⟨m, ρ, h, rl, en, p.bind.mono (fun v H1 ⟨m1, d, h1, e1, r1, ra, p1⟩ => by
    split at p1
    · rename_i j
      simp only [RD] at ra
      subst ra
      split at p1
      · rename_i hj
        refine ⟨j, rfl, hj.1, hj.2, ?_⟩
        have := p1.ok (b := Itr 0 (j - 0).toNat) r1 (itok_rng (m := m1) (H := H1))
        simpa using this
      · exact p1.elim
    · exact p1.elim) fun _ _ _ z => z⟩⟩
theorem ri_rg2 (hg : Gl X "range") (hm : X.mg "range" = none) (ha : RE X a fa) (hb : RE X b fb) (hs : starEach [a, b] X.env = [(false, eval a X.env), (false, eval b X.env)] := by rfl) (hs2 : starEach [b] X.env = [(false, eval b X.env)] := by rfl)
    (hs3 : starEach [a, b] X.env = (false, eval a X.env) :: starEach [b] X.env := by rfl) : RI X tg (.Call (.Name "range" p) [a, b] [] pos) (iRg2 fa fb) :=
  ⟨fun W tk => pi_imp (pi_range2 hg hm (pa_cons (ha.run W tk) (pa_cons (hb.run W tk) pa_nil hs2) hs3) hs hs2) fun σ H Rr ⟨m, ρ, h, rl, en, p⟩ => ⟨m, ρ, h, rl, en, p.bind.mono (fun v H1 ⟨m1, d, h1, e1, r1, ra, p1⟩ =>
    ⟨m1, ρ, h1, r1, en.ext e1, p1.bind.mono (fun v2 H2 ⟨m2, d2, h2, e2, r2, rb, p2⟩ => by
    cases d with
    | int i =>
      cases d2 with
      | int j =>
        simp only [RD] at ra rb
        subst ra rb
        dsimp only at p2
        split at p2
        · rename_i hj
          exact ⟨i, j, rfl, ⟨hj.1.1, hj.1.2, hj.2.1, hj.2.2⟩, p2.ok (b := Itr i (j - i).toNat) r2 (itok_rng (m := m2) (H := H2))⟩
        · exact p2.elim
      | _ => exact False.elim p2
    | _ => exact False.elim p2) fun _ _ _ z => z⟩) fun _ _ _ z => z⟩⟩
/-- enumerate of a list -/
def enD (ds : List D) : List D := (List.range ds.length).map fun i : Nat => D.tup [.int (i : Nat), ds.getD i .non]
def iEn (f : SE) : SI := fun ρ h => (f ρ h).bind fun d h1 => match asLst d h1, srcOf d h1 with
  | some ds, some s => .ok (enD ds, s.2) h1
  | _, _ => .no
theorem enD_get {ds : List D} {i : Nat} {d : D} (h : (enD ds)[i]? = some d) : ∃ x, ds[i]? = some x ∧ d = .tup [.int (i : Nat), x] := by
  unfold enD at h
  simp only [List.getElem?_map, Option.map_eq_some_iff] at h
  obtain ⟨c, hc, rfl⟩ := h
  obtain ⟨hl, hc'⟩ := List.getElem?_eq_some_iff.mp hc
  rw [List.getElem_range] at hc'
  subst hc'
  rw [List.length_range] at hl
  exact ⟨ds[i], by simp [hl], by simp [List.getD, hl]⟩
/-- a list that stands still while it is walked -/
theorem lst_still {K : PySem.W.Frag} {mg : Str → Option Value} {m1 : List Addr} {H1 : Hp} {h1 : Hs} {d : D} {v : V} {ds : List D} {s : Src} (r1 : Rel K mg m1 H1 h1) (rd : RD K mg m1 H1 d v) (e1 : asLst d h1 = some ds) (e2 : srcOf d h1 = some s) :
    ∃ a xs, v = .ref a ∧ SqL K H1 a xs ∧ ∀ (m2 : List Addr) (H2 : Hp) (h2 : Hs), Ext m1 H1 m2 H2 → Rel K mg m2 H2 h2 → s.2 h2 → ∃ xs, SqL K H2 a xs ∧ RDs K mg m2 H2 ds xs := by
  unfold asLst at e1
  split at e1
  · cases e1
    simp only [srcOf] at e2
    cases e2
    simp only [RD] at rd
    obtain ⟨a, xs, rfl, f, n, r⟩ := rd
    exact ⟨a, xs, rfl, SqL.of f, fun m2 H2 h2 e _ _ => ⟨xs, SqL.of (e.keep _ _ f n), RDs.ext e _ _ r⟩⟩
  · split at e1
    · rename_i n _ ds' hn
      cases e1
      simp only [srcOf, hn] at e2
      cases e2
      simp only [RD] at rd
      obtain ⟨a, rfl, ha⟩ := rd
      obtain ⟨xs, f, r⟩ := r1.ob _ _ _ hn ha
      exact ⟨a, xs, rfl, SqL.of f, fun m2 H2 h2 e r2 o => by
        obtain ⟨xs2, f2, r2'⟩ := r2.ob _ _ _ o (e.get ha)
        exact ⟨xs2, SqL.of f2, r2'⟩⟩
    · cases e1
  · cases e1
/-- a new pair -/
theorem pair_new {K : PySem.W.Frag} {mg : Str → Option Value} {m2 : List Addr} {H2 : Hp} {h2 : Hs} {T : Addr} {x y : D} {u w : V} (r2 : Rel K mg m2 H2 h2) (hT : H2 T = none) (rx : RD K mg m2 H2 x u) (ry : RD K mg m2 H2 y w) :
    Ext m2 H2 m2 (upd H2 T (.tup [u, w])) ∧ Rel K mg m2 (upd H2 T (.tup [u, w])) h2 ∧ RD K mg m2 (upd H2 T (.tup [u, w])) (.tup [x, y]) (.ref T) := by
  refine ⟨Ext.new hT, r2.new hT, ?_⟩
  simp only [RD, RDs]
  exact ⟨T, [u, w], rfl, .inl ⟨.inl upd_same, fun z => r2.there z hT⟩, u, _, rfl, RD.ext (Ext.new hT) _ _ rx, w, _, rfl, RD.ext (Ext.new hT) _ _ ry, rfl⟩
theorem ri_en {elts : List Expr} {kk : Nat} {tpos : Pos} (hg : Gl X "enumerate") (hm : X.mg "enumerate" = none) (ha : RE X a fa) (hs : starEach [a] X.env = [(false, eval a X.env)] := by rfl) :
    RI X (.Tuple elts kk tpos) (.Call (.Name "enumerate" p) [a] [] pos) (iEn fa) :=
  ⟨fun W tk => pi_imp (pi_enum hg hm (pa_cons (ha.run W tk) pa_nil hs) hs) fun σ H Rr ⟨m, ρ, h, rl, en, p⟩ => ⟨m, ρ, h, rl, en, p.bind.mono (fun v H1 ⟨m1, d, h1, e1, r1, ra, p1⟩ => by
    split at p1
    · rename_i ds s hd hs
      obtain ⟨a, xs, rfl, f, st⟩ := lst_still r1 ra hd hs
      refine ⟨a, xs, rfl, f, p1.ok (b := Ite X.K a) r1 fun m2 H2 h2 e2 r2 o i => ?_⟩
      obtain ⟨xs2, f2, rs⟩ := st m2 H2 h2 e2 r2 o
      refine ⟨fun d hd => ?_, fun hl => ?_⟩
      · obtain ⟨x, hx, rfl⟩ := enD_get hd
        obtain ⟨w, hw, rw'⟩ := rs.get hx
        refine ⟨⟨xs2, w, f2, hw⟩, ?_⟩
        rintro y H3 ⟨T, w', rfl, hT, rfl, hx'⟩
        have := hx' xs2 f2
        rw [hw] at this; cases this
        exact pair_new r2 hT (by simp only [RD]) rw'
      · have hl' : (enD ds).length ≤ i := hl
        unfold enD at hl'
        rw [List.length_map, List.length_range] at hl'
        exact ⟨xs2, f2, by rw [← rs.len]; exact hl'⟩
    · exact p1.elim) fun _ _ _ z => z⟩⟩
/-- zip of two lists, of two tuples -/
def zipD (ds es : List D) : List D := (ds.zip es).map fun q => D.tup [q.1, q.2]
def iZp (f g : SE) : SI := fun ρ h => (f ρ h).bind fun d h1 => (g ρ h1).bind fun e h2 => match d, e with
  | .tup ds, .tup es => .ok (zipD ds es, rel0) h2
  | _, _ => match asLst d h2, srcOf d h2, asLst e h2, srcOf e h2 with
    | some ds, some s, some es, some t => .ok (zipD ds es, fun h' => s.2 h' ∧ t.2 h') h2
    | _, _, _, _ => .no
theorem zipD_get {ds es : List D} {i : Nat} {d : D} (h : (zipD ds es)[i]? = some d) : ∃ x y, ds[i]? = some x ∧ es[i]? = some y ∧ d = .tup [x, y] := by
  unfold zipD at h
  simp only [List.getElem?_map, Option.map_eq_some_iff] at h
  obtain ⟨c, hc, rfl⟩ := h
  rw [List.getElem?_zip_eq_some] at hc
  exact ⟨c.1, c.2, hc.1, hc.2, rfl⟩
theorem ri_zp {elts : List Expr} {kk : Nat} {tpos : Pos} (hg : Gl X "zip") (hm : X.mg "zip" = none) (ha : RE X a fa) (hb : RE X b fb) (hs : starEach [a, b] X.env = (false, eval a X.env) :: starEach [b] X.env := by rfl)
    (hs2 : starEach [b] X.env = [(false, eval b X.env)] := by rfl) (hpl : (backTo pos (starEach [b] X.env)).any (·.1) = false := by rfl) :
    RI X (.Tuple elts kk tpos) (.Call (.Name "zip" p) [a, b] [] pos) (iZp fa fb) :=
  ⟨fun W tk => pi_imp (RZ.pi_zipA hg hm (pa_cons (ha.run W tk) (pa_cons (hb.run W tk) pa_nil hs2) hs) hs hpl) fun σ H Rr ⟨m, ρ, h, rl, en, p⟩ => ⟨m, ρ, h, rl, en, p.bind.mono (fun v H1 ⟨m1, d, h1, e1, r1, ra, p1⟩ =>
    ⟨m1, ρ, h1, r1, en.ext e1, p1.bind.mono (fun v2 H2 ⟨m2, d2, h2, e2, r2, rb, p2⟩ => by
    have ra := RD.ext e2 _ _ ra
    split at p2
    · obtain ⟨a, xs, rfl, fx, rx⟩ := RD.tup_fz ra
      obtain ⟨b, ys, rfl, fy, ry⟩ := RD.tup_fz rb
      refine ⟨a, b, xs, ys, rfl, .inr ⟨fx.sq, fy.sq, p2.ok (b := RZ.ItzT X.K a b) r2 fun m3 H3 h3 e3 r3 o i => ?_⟩⟩
      have fx := fx.ext e3
      have fy := fy.ext e3
      have rx := RDs.ext e3 _ _ rx
      have ry := RDs.ext e3 _ _ ry
      refine ⟨fun d hd => ?_, fun hl => ?_⟩
      · obtain ⟨x, y, hx, hy, rfl⟩ := zipD_get hd
        obtain ⟨u, hu, ru⟩ := rx.get hx
        obtain ⟨w, hw, rw'⟩ := ry.get hy
        refine ⟨⟨xs, ys, u, w, fx.sq, fy.sq, hu, hw⟩, ?_⟩
        rintro z H4 ⟨T, u', w', rfl, hT, rfl, h1', h2'⟩
        have e1' := h1' xs fx.sq
        have e2' := h2' ys fy.sq
        rw [hu] at e1'; cases e1'
        rw [hw] at e2'; cases e2'
        exact pair_new r3 hT ru rw'
      · have hl' := hl
        simp only [zipD, List.length_map, List.length_zip] at hl'
        have l1 := rx.len
        have l2 := ry.len
        exact ⟨xs, ys, fx.sq, fy.sq, by omega⟩
    · split at p2
      · rename_i ds s es t hd hs he ht
        obtain ⟨a, xs, rfl, fx, sx⟩ := lst_still r2 ra hd hs
        obtain ⟨b, ys, rfl, fy, sy⟩ := lst_still r2 rb he ht
        refine ⟨a, b, xs, ys, rfl, .inl ⟨fx, fy, p2.ok (b := Itz X.K a b) r2 fun m3 H3 h3 e3 r3 o i => ?_⟩⟩
        obtain ⟨xs, fx, rx⟩ := sx m3 H3 h3 e3 r3 o.1
        obtain ⟨ys, fy, ry⟩ := sy m3 H3 h3 e3 r3 o.2
        refine ⟨fun d hd => ?_, fun hl => ?_⟩
        · obtain ⟨x, y, hx, hy, rfl⟩ := zipD_get hd
          obtain ⟨u, hu, ru⟩ := rx.get hx
          obtain ⟨w, hw, rw'⟩ := ry.get hy
          refine ⟨⟨xs, ys, u, w, fx, fy, hu, hw⟩, ?_⟩
          rintro z H4 ⟨T, u', w', rfl, hT, rfl, h1', h2'⟩
          have e1' := h1' xs fx
          have e2' := h2' ys fy
          rw [hu] at e1'; cases e1'
          rw [hw] at e2'; cases e2'
          exact pair_new r3 hT ru rw'
        · have hl' : (zipD ds es).length ≤ i := hl
          unfold zipD at hl'
          rw [List.length_map, List.length_zip] at hl'
          have l1 := rx.len
          have l2 := ry.len
          exact ⟨xs, ys, fx, fy, by omega⟩
      · exact p2.elim) fun _ _ _ z => z⟩) fun _ _ _ z => z⟩⟩
end

/-! ### for -/
section
open Classical
noncomputable def forGo (t : D → Ev → Option Ev) (f : SS) (ok : Hs → Prop) : List D → SS
  | [], ρ, h => if ok h then .nx ρ h else .no
  | d :: r, ρ, h => if ok h then match t d ρ with
    | some ρ1 => (match f ρ1 h with
      | .nx ρ2 h2 => forGo t f ok r ρ2 h2
      | .ct ρ2 h2 => forGo t f ok r ρ2 h2
      | .bk ρ2 h2 => .nx ρ2 h2
      | .rt d2 h2 => .rt d2 h2
      | .er e ρ2 h2 => .er e ρ2 h2
      | .no => .no)
    | none => .no
  else .no
noncomputable def sFor (s : SI) (t : D → Ev → Option Ev) (f : SS) : SS := fun ρ h => (s ρ h).toS ρ fun q h1 => forGo t f q.2 q.1 ρ h1
variable {X : Cx} {iter tg : Expr} {body : List Stmt} {fi : SI} {g : TG} {ft : D → Ev → Option Ev} {ws : List Nat} {f : SS} {pos : Pos}
theorem rs_for (hp : PassesOwn (model X.prog X.w) X.A X.env X.xe) (hc : X.calm = true) (hi : RI X tg iter fi) (hg : PG X tg g) (ht : TgOk X.K g ft ws) (hb : RSs X body f)
    (hs : ∀ x, foldedSetIterable iter X.env x = pure x := by exact fun _ => rfl) : RSt X (.For tg iter body [] pos) (sFor fi ft f) :=
  ⟨fun W tk => ps_imp (ps_for hp hc (hi.run W tk) hg (hb.run W tk) hs) fun D σ H ⟨m, ρ, h, rl, en, p⟩ => ⟨m, ρ, h, rl, en, (p.toS en).mono (fun J H1 ⟨m1, s, h1, e1, r1, io, p1⟩ => by
    obtain ⟨ds, ok⟩ := s
    refine ⟨fun i k σ' H' => i ≤ ds.length ∧ k = ds.length - i ∧ ∃ m2 ρ2 h2, Ext m1 H1 m2 H' ∧ Rel X.K X.mg m2 H' h2 ∧ REnv X.K X.mg m2 H' ρ2 σ' ∧ PoS X.K X.mg m2 H' (forGo ft f ok (ds.drop i) ρ2 h2) D W, ⟨ds.length, Nat.zero_le _, rfl, m1, ρ, h1, Ext.refl _ _, r1, en.ext e1, by simpa using p1⟩, ?_⟩
    rintro i k σ2 H2 ⟨hi, rfl, m2, ρ2, h2, e2, r2, en2, p2⟩
    by_cases hl : i < ds.length
    · have hd : ds.drop i = ds[i] :: ds.drop (i + 1) := List.drop_eq_getElem_cons hl
      rw [hd] at p2
      unfold forGo at p2
      split at p2
      · rename_i hok
        obtain ⟨go, st⟩ := (io m2 H2 h2 e2 r2 hok i).1 ds[i] (by simp [hl])
        refine .inr ⟨go, fun σ' H' => ∃ m3 ρ3 h3, Ext m1 H1 m3 H' ∧ Rel X.K X.mg m3 H' h3 ∧ REnv X.K X.mg m3 H' ρ3 σ' ∧ PoS X.K X.mg m3 H' (forGo ft f ok (ds.drop (i + 1)) ρ3 h3) D W, fun σ' H' n' => ⟨ds.length - (i + 1), by omega, by omega, rfl, n'⟩, fun x H3 y => ?_⟩
        obtain ⟨e3, r3, rx⟩ := st x H3 y
        split at p2
        · rename_i ρ3 hρ
          refine ht.go _ m2 H3 _ x ρ2 ρ3 σ2 _ rx (en2.ext e3) hρ fun σ3 en3 _ _ => ⟨m2, ρ3, h2, r3, en3, ?_⟩
          have p3 := p2.ext e3
          have e4 := e2.trans e3
          cases q : f ρ3 h2 with
          | nx ρ5 h5 => rw [q] at p3; exact fun m5 H5 σ5 e5 r5 en5 => ⟨m5, ρ5, h5, e4.trans e5, r5, en5, p3.ext e5⟩
          | ct ρ5 h5 => rw [q] at p3; exact fun m5 H5 σ5 e5 r5 en5 => ⟨m5, ρ5, h5, e4.trans e5, r5, en5, p3.ext e5⟩
          | bk ρ5 h5 => rw [q] at p3; exact p3
          | rt d5 h5 => rw [q] at p3; exact p3
          | er x5 ρ5 h5 => rw [q] at p3; exact p3
          | no => rw [q] at p3; exact p3.elim
        · exact p2.elim
      · exact p2.elim
    · have hd : ds.drop i = [] := List.drop_eq_nil_of_le (by omega)
      rw [hd] at p2
      unfold forGo at p2
      split at p2
      · rename_i hok
        exact .inl ⟨(io m2 H2 h2 e2 r2 hok i).2 (by simpa using hl), p2.nx r2 en2⟩
      · exact p2.elim) fun _ _ _ z => z⟩⟩
end
/-! ### while -/
def whGo (c : ST) (f : SS) : Nat → SS
  | 0, _, _ => .no
  | n + 1, ρ, h => (c ρ h).toS ρ fun b h1 => match b with
    | true => (match f ρ h1 with
      | .nx ρ2 h2 => whGo c f n ρ2 h2
      | .ct ρ2 h2 => whGo c f n ρ2 h2
      | .bk ρ2 h2 => .nx ρ2 h2
      | .rt d2 h2 => .rt d2 h2
      | .er e ρ2 h2 => .er e ρ2 h2
      | .no => .no)
    | false => .nx ρ h1
def fuel : Nat := 1000000000
def sWhile (c : ST) (f : SS) : SS := whGo c f fuel
theorem rs_while {X : Cx} {c : Expr} {body : List Stmt} {pos : Pos} {tc : ST} {f : SS} (hp : PassesOwn (model X.prog X.w) X.A X.env X.xe) (hc : RT X c tc) (hb : RSs X body f) : RSt X (.While c body [] pos) (sWhile tc f) :=
  ⟨fun W tk => ps_imp (ps_while hp (hc.run W tk) (hb.run W tk)) fun D σ H ⟨m, ρ, h, rl, en, p⟩ => by
    refine ⟨fun n σ' H' => ∃ m2 ρ2 h2, Rel X.K X.mg m2 H' h2 ∧ REnv X.K X.mg m2 H' ρ2 σ' ∧ PoS X.K X.mg m2 H' (whGo tc f n ρ2 h2) D W, ⟨fuel, m, ρ, h, rl, en, p⟩, ?_⟩
    rintro n σ2 H2 ⟨m2, ρ2, h2, r2, en2, p2⟩
    cases n with
    | zero => exact p2.elim
    | succ n =>
      unfold whGo at p2
      refine ⟨m2, ρ2, h2, r2, en2, (p2.toS en2).mono (fun b H3 ⟨m3, b', h3, e3, r3, rb, p3⟩ => ?_) fun _ _ _ z => z⟩
      cases rb
      cases b with
      | false => rw [if_neg Bool.false_ne_true]; exact p3.nx r3 (en2.ext e3)
      | true =>
        rw [if_pos rfl]
        refine ⟨fun σ' H' => ∃ m4 ρ4 h4, Rel X.K X.mg m4 H' h4 ∧ REnv X.K X.mg m4 H' ρ4 σ' ∧ PoS X.K X.mg m4 H' (whGo tc f n ρ4 h4) D W, fun σ' H' n' => ⟨n, Nat.lt_succ_self _, n'⟩, m3, ρ2, h3, r3, en2.ext e3, ?_⟩
        dsimp only at p3
        cases q : f ρ2 h3 with
        | nx ρ5 h5 => rw [q] at p3; exact fun m5 H5 σ5 e5 r5 en5 => ⟨m5, ρ5, h5, r5, en5, p3.ext e5⟩
        | ct ρ5 h5 => rw [q] at p3; exact fun m5 H5 σ5 e5 r5 en5 => ⟨m5, ρ5, h5, r5, en5, p3.ext e5⟩
        | bk ρ5 h5 => rw [q] at p3; exact p3
        | rt d5 h5 => rw [q] at p3; exact p3
        | er x5 ρ5 h5 => rw [q] at p3; exact p3
        | no => rw [q] at p3; exact p3.elim⟩
end G

/-! G6: what is left of a state behind a call; list comprehensions. -/
namespace G
open PySem PySem.Spec PyProof.Rows L2

/-! ### numbers below n alone -/
mutual
def D.blw (n : Nat) : D → Bool
  | .ref k => decide (k < n)
  | .tup ds => belows n ds
  | .lst ds => belows n ds
  | .scr ds => belows n ds
  | .dct kvs => belowk n kvs
  | .ins _ fs => belowf n fs
  | .exn _ _ fs => belowf n fs
  | .non => true
  | .bl _ => true
  | .int _ => true
  | .str _ => true
def belows (n : Nat) : List D → Bool
  | [] => true
  | d :: r => d.blw n && belows n r
def belowk (n : Nat) : List (Key × D) → Bool
  | [] => true
  | (_, d) :: r => d.blw n && belowk n r
def belowf (n : Nat) : List (Str × D) → Bool
  | [] => true
  | (_, d) :: r => d.blw n && belowf n r
end
def OB.blw (n : Nat) : OB → Bool
  | .lst ds => belows n ds
  | .dct kvs => belowk n kvs
  | .ins _ fs => belowf n fs
/-- without any number -/
abbrev D.pure (d : D) : Bool := d.blw 0
mutual
theorem D.blw_mono {n k : Nat} (h : n ≤ k) : ∀ d : D, d.blw n = true → d.blw k = true
  | .ref j, e => by simp only [D.blw, decide_eq_true_eq] at e ⊢; omega
  | .tup ds, e => by simp only [D.blw] at e ⊢; exact belows_mono h ds e
  | .lst ds, e => by simp only [D.blw] at e ⊢; exact belows_mono h ds e
  | .scr ds, e => by simp only [D.blw] at e ⊢; exact belows_mono h ds e
  | .dct ds, e => by simp only [D.blw] at e ⊢; exact belowk_mono h ds e
  | .ins _ ds, e => by simp only [D.blw] at e ⊢; exact belowf_mono h ds e
  | .exn _ _ ds, e => by simp only [D.blw] at e ⊢; exact belowf_mono h ds e
  | .non, e => by simp only [D.blw]
  | .bl _, e => by simp only [D.blw]
  | .int _, e => by simp only [D.blw]
  | .str _, e => by simp only [D.blw]
theorem belows_mono {n k : Nat} (h : n ≤ k) : ∀ d : List D, belows n d = true → belows k d = true
  | [], _ => by simp only [belows]
  | d :: r, e => by
    simp only [belows, Bool.and_eq_true] at e ⊢
    exact ⟨D.blw_mono h d e.1, belows_mono h r e.2⟩
theorem belowk_mono {n k : Nat} (h : n ≤ k) : ∀ d : List (Key × D), belowk n d = true → belowk k d = true
  | [], _ => by simp only [belowk]
  | (_, d) :: r, e => by
    simp only [belowk, Bool.and_eq_true] at e ⊢
    exact ⟨D.blw_mono h d e.1, belowk_mono h r e.2⟩
theorem belowf_mono {n k : Nat} (h : n ≤ k) : ∀ d : List (Str × D), belowf n d = true → belowf k d = true
  | [], _ => by simp only [belowf]
  | (_, d) :: r, e => by
    simp only [belowf, Bool.and_eq_true] at e ⊢
    exact ⟨D.blw_mono h d e.1, belowf_mono h r e.2⟩
end
theorem belows_all {n : Nat} : ∀ ds : List D, belows n ds = ds.all (D.blw n)
  | [] => by simp [belows]
  | d :: r => by simp [belows, belows_all r]
theorem pure_below {d : D} {n : Nat} (h : d.pure = true) : d.blw n = true := D.blw_mono (Nat.zero_le n) d h
section
variable {K : PySem.W.Frag} {mg : Str → Option Value} {m : List Addr} {H : Hp}
mutual
theorem RD.blw_len : ∀ (d : D) (v : V), RD K mg m H d v → d.blw m.length = true
  | .non, v, h => by simp only [D.blw]
  | .bl b, v, h => by simp only [D.blw]
  | .int i, v, h => by simp only [D.blw]
  | .str x, v, h => by simp only [D.blw]
  | .tup ds, v, h => by
    simp only [RD] at h; simp only [D.blw]
    obtain ⟨a, xs, rfl, f, r⟩ := h
    exact RDs.below_len ds xs r
  | .lst ds, v, h => by
    simp only [RD] at h; simp only [D.blw]
    obtain ⟨a, xs, rfl, f, _, r⟩ := h
    exact RDs.below_len ds xs r
  | .scr ds, v, h => by
    simp only [RD] at h; simp only [D.blw]
    obtain ⟨a, xs, rfl, f, r⟩ := h
    exact RDs.below_len ds xs r
  | .dct kvs, v, h => by
    simp only [RD] at h; simp only [D.blw]
    obtain ⟨a, ys, rfl, f, n, r⟩ := h
    exact RDk.below_len kvs ys r
  | .ins c fs, v, h => by
    simp only [RD] at h; simp only [D.blw]
    obtain ⟨a, C, dx, ys, rfl, g, f, n, r⟩ := h
    exact RDf.below_len fs ys r
  | .ref n, v, h => by
    simp only [RD] at h; simp only [D.blw, decide_eq_true_eq]
    obtain ⟨a, rfl, f⟩ := h
    exact (List.getElem?_eq_some_iff.mp f).1
  | .exn x c fs, v, h => by
    simp only [RD] at h; simp only [D.blw]
    obtain ⟨C, ys, rfl, g, q, f, r⟩ := h
    exact RDf.below_len fs ys r
theorem RDs.below_len : ∀ (ds : List D) (vs : List V), RDs K mg m H ds vs → belows m.length ds = true
  | [], vs, h => by simp only [belows]
  | d :: r, vs, h => by
    simp only [RDs] at h; simp only [belows, Bool.and_eq_true]
    obtain ⟨v, vr, rfl, h1, h2⟩ := h
    exact ⟨RD.blw_len d v h1, RDs.below_len r vr h2⟩
theorem RDk.below_len : ∀ (ds : List (Key × D)) (vs : List (Key × V)), RDk K mg m H ds vs → belowk m.length ds = true
  | [], vs, h => by simp only [belowk]
  | (k, d) :: r, vs, h => by
    simp only [RDk] at h; simp only [belowk, Bool.and_eq_true]
    obtain ⟨v, vr, rfl, h1, h2⟩ := h
    exact ⟨RD.blw_len d v h1, RDk.below_len r vr h2⟩
theorem RDf.below_len : ∀ (ds : List (Str × D)) (vs : List (Str × V)), RDf K mg m H ds vs → belowf m.length ds = true
  | [], vs, h => by simp only [belowf]
  | (k, d) :: r, vs, h => by
    simp only [RDf] at h; simp only [belowf, Bool.and_eq_true]
    obtain ⟨v, vr, rfl, h1, h2⟩ := h
    exact ⟨RD.blw_len d v h1, RDf.below_len r vr h2⟩
end
theorem notin_take {a : Addr} {n : Nat} (h : a ∉ m) : a ∉ m.take n := fun z => h (List.mem_of_mem_take z)
mutual
theorem RD.take (n : Nat) : ∀ (d : D) (v : V), RD K mg m H d v → d.blw n = true → RD K mg (m.take n) H d v
  | .non, v, h, _ => by simpa only [RD] using h
  | .bl b, v, h, _ => by simpa only [RD] using h
  | .int i, v, h, _ => by simpa only [RD] using h
  | .str x, v, h, _ => by simpa only [RD] using h
  | .tup ds, v, h, b => by
    simp only [RD] at h ⊢; simp only [D.blw] at b
    obtain ⟨a, xs, rfl, f, r⟩ := h
    exact ⟨a, xs, rfl, f.imp (fun z => ⟨z.1, notin_take z.2⟩) id, RDs.takeN n ds xs r b⟩
  | .lst ds, v, h, b => by
    simp only [RD] at h ⊢; simp only [D.blw] at b
    obtain ⟨a, xs, rfl, f, g, r⟩ := h
    exact ⟨a, xs, rfl, f, notin_take g, RDs.takeN n ds xs r b⟩
  | .scr ds, v, h, b => by
    simp only [RD] at h ⊢; simp only [D.blw] at b
    obtain ⟨a, xs, rfl, f, r⟩ := h
    exact ⟨a, xs, rfl, f.imp (fun z => ⟨z.1, notin_take z.2⟩) id, RDs.takeN n ds xs r b⟩
  | .dct kvs, v, h, b => by
    simp only [RD] at h ⊢; simp only [D.blw] at b
    obtain ⟨a, ys, rfl, f, g, r⟩ := h
    exact ⟨a, ys, rfl, f, notin_take g, RDk.takeN n kvs ys r b⟩
  | .ins c fs, v, h, b => by
    simp only [RD] at h ⊢; simp only [D.blw] at b
    obtain ⟨a, C, dx, ys, rfl, q, f, g, r⟩ := h
    exact ⟨a, C, dx, ys, rfl, q, f, notin_take g, RDf.takeN n fs ys r b⟩
  | .ref k, v, h, b => by
    simp only [RD] at h ⊢; simp only [D.blw, decide_eq_true_eq] at b
    obtain ⟨a, rfl, f⟩ := h
    exact ⟨a, rfl, by rw [List.getElem?_take_of_lt b]; exact f⟩
  | .exn x c fs, v, h, b => by
    simp only [RD] at h ⊢; simp only [D.blw] at b
    obtain ⟨C, ys, rfl, g, q, f, r⟩ := h
    exact ⟨C, ys, rfl, g, q, f.imp id fun ⟨d, e1, e2, e3⟩ => ⟨d, e1, e2, notin_take e3⟩, RDf.takeN n fs ys r b⟩
theorem RDs.takeN (n : Nat) : ∀ (ds : List D) (vs : List V), RDs K mg m H ds vs → belows n ds = true → RDs K mg (m.take n) H ds vs
  | [], vs, h, _ => by simpa only [RDs] using h
  | d :: r, vs, h, b => by
    simp only [RDs] at h ⊢; simp only [belows, Bool.and_eq_true] at b
    obtain ⟨v, vr, rfl, h1, h2⟩ := h
    exact ⟨v, vr, rfl, RD.take n d v h1 b.1, RDs.takeN n r vr h2 b.2⟩
theorem RDk.takeN (n : Nat) : ∀ (ds : List (Key × D)) (vs : List (Key × V)), RDk K mg m H ds vs → belowk n ds = true → RDk K mg (m.take n) H ds vs
  | [], vs, h, _ => by simpa only [RDk] using h
  | (k, d) :: r, vs, h, b => by
    simp only [RDk] at h ⊢; simp only [belowk, Bool.and_eq_true] at b
    obtain ⟨v, vr, rfl, h1, h2⟩ := h
    exact ⟨v, vr, rfl, RD.take n d v h1 b.1, RDk.takeN n r vr h2 b.2⟩
theorem RDf.takeN (n : Nat) : ∀ (ds : List (Str × D)) (vs : List (Str × V)), RDf K mg m H ds vs → belowf n ds = true → RDf K mg (m.take n) H ds vs
  | [], vs, h, _ => by simpa only [RDf] using h
  | (k, d) :: r, vs, h, b => by
    simp only [RDf] at h ⊢; simp only [belowf, Bool.and_eq_true] at b
    obtain ⟨v, vr, rfl, h1, h2⟩ := h
    exact ⟨v, vr, rfl, RD.take n d v h1 b.1, RDf.takeN n r vr h2 b.2⟩
end
theorem RO.take {a : Addr} (n : Nat) : ∀ {o : OB}, RO K mg m H a o → o.blw n = true → RO K mg (m.take n) H a o
  | .lst ds, ⟨xs, h, r⟩, b => ⟨xs, h, RDs.takeN n ds xs r b⟩
  | .dct ds, ⟨xs, h, r⟩, b => ⟨xs, h, RDk.takeN n ds xs r b⟩
  | .ins c ds, ⟨C, dx, xs, g, h, r⟩, b => ⟨C, dx, xs, g, h, RDf.takeN n ds xs r b⟩
theorem RO.below_len {a : Addr} : ∀ {o : OB}, RO K mg m H a o → o.blw m.length = true
  | .lst ds, ⟨xs, h, r⟩ => RDs.below_len ds xs r
  | .dct ds, ⟨xs, h, r⟩ => RDk.below_len ds xs r
  | .ins c ds, ⟨C, dx, xs, g, h, r⟩ => RDf.below_len ds xs r
end
/-- the elder objects: as they were, or of elder numbers alone -/
def OldOk (h0 h : Hs) : Prop := ∀ i : Nat, i < h0.length → h[i]? = h0[i]? ∨ ∃ o, h[i]? = some o ∧ o.blw h0.length = true
theorem Rel.trim {K : PySem.W.Frag} {mg : Str → Option Value} {m0 m : List Addr} {H0 H : Hp} {h0 h : Hs} (r0 : Rel K mg m0 H0 h0) (e : Ext m0 H0 m H) (r : Rel K mg m H h) (ok : OldOk h0 h) :
    m.take h0.length = m0 ∧ Rel K mg m0 H (h.take h0.length) := by
  obtain ⟨q, rfl, hq⟩ := e.pre
  have hl : h0.length = m0.length := r0.len.symm
  have em : (m0 ++ q).take h0.length = m0 := by rw [hl]; simp
  refine ⟨em, ?_⟩
  have hle : h0.length ≤ h.length := by rw [hl, ← r.len]; simp
  refine ⟨(List.nodup_append.mp r.nd).1, by rw [List.length_take]; omega, fun n o a hn ha => ?_⟩
  have hn' : n < h0.length := by
    have := (List.getElem?_eq_some_iff.mp hn).1
    rw [List.length_take] at this; omega
  rw [List.getElem?_take_of_lt hn'] at hn
  have ro := r.ob n o a hn (by rw [List.getElem?_append_left (by omega)]; exact ha)
  have hb : o.blw h0.length = true := by
    rcases ok n hn' with z | ⟨o', z, b⟩
    · rw [hn] at z
      have := (r0.ob n o a z.symm ha).below_len
      rwa [hl]
    · rw [hn] at z; cases z; exact b
  have := ro.take h0.length hb
  rwa [em] at this
/-! a value seen from outside: what was new is data now -/
mutual
def frz (h : Hs) (n : Nat) : D → Option D
  | .ref k => if k < n then some (.ref k) else match h[k]? with
    | some (.lst ds) => if belows n ds = true then some (.lst ds) else none
    | some (.dct kvs) => if belowk n kvs = true then some (.dct kvs) else none
    | some (.ins c fs) => if belowf n fs = true then some (.ins c fs) else none
    | none => none
  | .tup ds => (frzs h n ds).map .tup
  | .lst ds => (frzs h n ds).map .lst
  | .scr ds => if belows n ds = true then some (.scr ds) else none
  | .dct kvs => if belowk n kvs = true then some (.dct kvs) else none
  | .ins c fs => if belowf n fs = true then some (.ins c fs) else none
  | .exn x c fs => if belowf n fs = true then some (.exn x c fs) else none
  | .non => some .non
  | .bl b => some (.bl b)
  | .int i => some (.int i)
  | .str x => some (.str x)
def frzs (h : Hs) (n : Nat) : List D → Option (List D)
  | [] => some []
  | d :: r => match frz h n d, frzs h n r with
    | some a, some b => some (a :: b)
    | _, _ => none
end
mutual
theorem frz_below {h : Hs} {n : Nat} : ∀ d : D, d.blw n = true → frz h n d = some d
  | .ref k, e => by simp only [D.blw, decide_eq_true_eq] at e; simp only [frz, if_pos e]
  | .tup ds, e => by simp only [D.blw] at e; simp only [frz, frzs_below ds e, Option.map_some]
  | .lst ds, e => by simp only [D.blw] at e; simp only [frz, frzs_below ds e, Option.map_some]
  | .scr ds, e => by simp only [D.blw] at e; simp only [frz, if_pos e]
  | .dct ds, e => by simp only [D.blw] at e; simp only [frz, if_pos e]
  | .ins _ ds, e => by simp only [D.blw] at e; simp only [frz, if_pos e]
  | .exn _ _ ds, e => by simp only [D.blw] at e; simp only [frz, if_pos e]
  | .non, e => by simp only [frz]
  | .bl _, e => by simp only [frz]
  | .int _, e => by simp only [frz]
  | .str _, e => by simp only [frz]
theorem frzs_below {h : Hs} {n : Nat} : ∀ d : List D, belows n d = true → frzs h n d = some d
  | [], _ => by simp only [frzs]
  | d :: r, e => by
    simp only [belows, Bool.and_eq_true] at e
    simp only [frzs, frz_below d e.1, frzs_below r e.2]
end
section
variable {K : PySem.W.Frag} {mg : Str → Option Value} {m : List Addr} {H : Hp} {h : Hs}
theorem notin_of_nodup {n k : Nat} {a : Addr} (hd : m.Nodup) (hk : m[k]? = some a) (hn : n ≤ k) : a ∉ m.take n := fun z => by
  obtain ⟨j, hj⟩ := List.getElem?_of_mem z
  have hl : j < n := by
    have := (List.getElem?_eq_some_iff.mp hj).1
    rw [List.length_take] at this; omega
  rw [List.getElem?_take_of_lt hl] at hj
  obtain ⟨l1, e1⟩ := List.getElem?_eq_some_iff.mp hj
  obtain ⟨l2, e2⟩ := List.getElem?_eq_some_iff.mp hk
  have := (List.getElem_inj hd).mp (e1.trans e2.symm)
  omega
mutual
theorem frz_ok {n : Nat} (rl : Rel K mg m H h) : ∀ (d d' : D) (v : V), RD K mg m H d v → frz h n d = some d' → RD K mg (m.take n) H d' v
  | .ref k, d', v, r, e => by
    simp only [frz] at e
    split at e
    · rename_i hk; cases e; exact RD.take n _ v r (by simp only [D.blw, decide_eq_true_eq]; exact hk)
    · rename_i hk
      simp only [RD] at r
      obtain ⟨a, rfl, ha⟩ := r
      have na := notin_of_nodup (n := n) rl.nd ha (by omega)
      split at e
      · rename_i ds hds
        split at e
        · rename_i hb
          cases e
          obtain ⟨xs, f, rs⟩ := rl.ob _ _ _ hds ha
          simp only [RD]
          exact ⟨a, xs, rfl, f, na, RDs.takeN n _ _ rs hb⟩
        · cases e
      · rename_i ds hds
        split at e
        · rename_i hb
          cases e
          obtain ⟨xs, f, rs⟩ := rl.ob _ _ _ hds ha
          simp only [RD]
          exact ⟨a, xs, rfl, f, na, RDk.takeN n _ _ rs hb⟩
        · cases e
      · rename_i c ds hds
        split at e
        · rename_i hb
          cases e
          obtain ⟨C, dx, xs, g, f, rs⟩ := rl.ob _ _ _ hds ha
          simp only [RD]
          exact ⟨a, C, dx, xs, rfl, g, f, na, RDf.takeN n _ _ rs hb⟩
        · cases e
      · cases e
  | .tup ds, d', v, r, e => by
    simp only [frz] at e
    obtain ⟨es, he, rfl⟩ := Option.map_eq_some_iff.mp e
    simp only [RD] at r ⊢
    obtain ⟨a, xs, rfl, f, r⟩ := r
    exact ⟨a, xs, rfl, f.imp (fun z => ⟨z.1, notin_take z.2⟩) id, frzs_ok rl ds es xs r he⟩
  | .lst ds, d', v, r, e => by
    simp only [frz] at e
    obtain ⟨es, he, rfl⟩ := Option.map_eq_some_iff.mp e
    simp only [RD] at r ⊢
    obtain ⟨a, xs, rfl, f, g, r⟩ := r
    exact ⟨a, xs, rfl, f, notin_take g, frzs_ok rl ds es xs r he⟩
  | .scr ds, d', v, r, e => by
    simp only [frz] at e
    split at e
    · rename_i hb; cases e; exact RD.take n _ v r (by simp only [D.blw]; exact hb)
    · cases e
  | .dct ds, d', v, r, e => by
    simp only [frz] at e
    split at e
    · rename_i hb; cases e; exact RD.take n _ v r (by simp only [D.blw]; exact hb)
    · cases e
  | .ins _ ds, d', v, r, e => by
    simp only [frz] at e
    split at e
    · rename_i hb; cases e; exact RD.take n _ v r (by simp only [D.blw]; exact hb)
    · cases e
  | .exn _ _ ds, d', v, r, e => by
    simp only [frz] at e
    split at e
    · rename_i hb; cases e; exact RD.take n _ v r (by simp only [D.blw]; exact hb)
    · cases e
  | .non, d', v, r, e => by simp only [frz] at e; cases e; simpa only [RD] using r
  | .bl _, d', v, r, e => by simp only [frz] at e; cases e; simpa only [RD] using r
  | .int _, d', v, r, e => by simp only [frz] at e; cases e; simpa only [RD] using r
  | .str _, d', v, r, e => by simp only [frz] at e; cases e; simpa only [RD] using r
theorem frzs_ok {n : Nat} (rl : Rel K mg m H h) : ∀ (d d' : List D) (v : List V), RDs K mg m H d v → frzs h n d = some d' → RDs K mg (m.take n) H d' v
  | [], d', v, r, e => by simp only [frzs] at e; cases e; simpa only [RDs] using r
  | d :: ds, d', v, r, e => by
    simp only [frzs] at e
    split at e
    · rename_i a b e1 e2
      cases e
      simp only [RDs] at r ⊢
      obtain ⟨u, vr, rfl, h1, h2⟩ := r
      exact ⟨u, vr, rfl, frz_ok rl d a u h1 e1, frzs_ok rl ds b vr h2 e2⟩
    · cases e
end
theorem RX.take {n : Nat} {x : D} {cls : Value} {dd : Option Addr} (hb : x.blw n = true) (r : RX K mg m H x cls dd) : RX K mg (m.take n) H x cls dd := by
  obtain ⟨c, fs, C, rfl, g, rfl, h⟩ := r
  simp only [D.blw] at hb
  refine ⟨c, fs, C, rfl, g, rfl, ?_⟩
  rcases h with h | ⟨d, ys, rfl, h, r⟩
  · exact .inl h
  · exact .inr ⟨d, ys, rfl, h, RDf.takeN n fs ys r hb⟩
end
section
open Classical
/-- behind a call: what it made is data, if anything -/
noncomputable def R.trim (h0 : Hs) (r : R D) : R D := match r with
  | .ok d h => match frz h h0.length d with
    | some d' => if OldOk h0 h then .ok d' (h.take h0.length) else .no
    | none => .no
  | .er e h => if e.blw h0.length = true ∧ OldOk h0 h then .er e (h.take h0.length) else .no
  | .no => .no
theorem Po.trim {K : PySem.W.Frag} {mg : Str → Option Value} {m : List Addr} {H : Hp} {h0 : Hs} {r : R D} {Q : VK} {Wx : XK} (rl : Rel K mg m H h0) (p : Po K mg (RD K mg) m H (r.trim h0) Q Wx) : Po K mg (RD K mg) m H r Q Wx := by
  cases r with
  | no => exact p
  | er x h =>
    simp only [R.trim] at p
    split at p
    · rename_i hc
      intro m' H' c dd e r' rx
      obtain ⟨em, rt⟩ := rl.trim e r' hc.2
      have e' : Ext m H m H' := ⟨⟨[], by simp, by simp⟩, e.keep, e.mono⟩
      have := rx.take hc.1
      rw [em] at this
      exact p m H' c dd e' rt this
    · exact p.elim
  | ok d h =>
    simp only [R.trim] at p
    split at p
    · rename_i d' hd
      split at p
      · rename_i hc
        intro m' H' v e r' rd
        obtain ⟨em, rt⟩ := rl.trim e r' hc
        have e' : Ext m H m H' := ⟨⟨[], by simp, by simp⟩, e.keep, e.mono⟩
        have := frz_ok r' d d' v rd hd
        rw [em] at this
        exact p m H' v e' rt this
      · exact p.elim
    · exact p.elim
/-- an expression behind which nothing new is left -/
noncomputable def sTrim (f : SE) : SE := fun ρ h => (f ρ h).trim h
theorem re_trim {X : Cx} {e : Expr} {f : SE} (h : RE X e f) : RE X e (sTrim f) := ⟨fun W tk => pe_imp (h.run W tk) fun σ H Q ⟨m, ρ, h, rl, en, p⟩ => ⟨m, ρ, h, rl, en, Po.trim rl p⟩⟩
end
theorem OldOk.refl (h : Hs) : OldOk h h := fun _ _ => .inl rfl
theorem OldOk.append (h t : Hs) : OldOk h (h ++ t) := fun i hi => .inl (by rw [List.getElem?_append_left hi])
theorem trim_ok {h t : Hs} {d : D} (hd : d.blw h.length = true) : R.trim h (.ok d (h ++ t)) = .ok d h := by
  simp only [R.trim, frz_below d hd, if_pos (OldOk.append h t)]
  rw [List.take_left']
  rfl
theorem trim_ok0 {h : Hs} {d : D} (hd : d.blw h.length = true) : R.trim h (.ok d h) = .ok d h := by
  have := trim_ok (t := []) hd
  simpa using this
end G

/-! G6b: list comprehensions. -/
namespace G
open PySem PySem.Spec PyProof.Rows L2
def wipeE (ρ : Ev) : List Nat → Ev
  | [] => ρ
  | v :: vs => (wipeE ρ vs).set v none
theorem wipeE_len (ρ : Ev) : ∀ vs, (wipeE ρ vs).length = ρ.length
  | [] => rfl
  | v :: vs => by unfold wipeE; rw [List.length_set, wipeE_len ρ vs]
theorem wipeE_some {ρ : Ev} {i : Nat} {x : D} : ∀ {vs : List Nat}, (wipeE ρ vs)[i]? = some (some x) → ρ[i]? = some (some x) ∧ i ∉ vs
  | [], h => ⟨h, by simp⟩
  | v :: vs, h => by
    unfold wipeE at h
    by_cases hi : v = i
    · subst hi
      by_cases hv : v < (wipeE ρ vs).length
      · rw [List.getElem?_set_self hv] at h; cases h
      · rw [List.getElem?_eq_none (by simpa using hv)] at h; cases h
    · rw [List.getElem?_set_ne hi] at h
      obtain ⟨h1, h2⟩ := wipeE_some h
      exact ⟨h1, by simp only [List.mem_cons, not_or]; exact ⟨fun e => hi e.symm, h2⟩⟩
theorem wipe_at {σ : Sl} {i : Nat} : ∀ {vs : List Nat}, i ∉ vs → (wipe σ vs)[i]? = σ[i]?
  | [], _ => rfl
  | v :: vs, h => by
    simp only [List.mem_cons, not_or] at h
    unfold wipe
    rw [List.getElem?_set_ne (Ne.symm h.1), wipe_at h.2]
theorem wipe_none {σ : Sl} {i : Nat} : ∀ {vs : List Nat}, i ∈ vs → i < σ.length → (wipe σ vs)[i]? = some none
  | v :: vs, h, hl => by
    unfold wipe
    by_cases e : v = i
    · subst e; rw [List.getElem?_set_self (by rw [wipe_length]; exact hl)]
    · rw [List.getElem?_set_ne e]
      exact wipe_none ((List.mem_cons.mp h).resolve_left (Ne.symm e)) hl
theorem wipe_eq {σ σ2 : Sl} {vs : List Nat} (hl : σ2.length = σ.length) (h : ∀ j, j ∉ vs → σ2[j]? = σ[j]?) : wipe σ2 vs = wipe σ vs := by
  apply List.ext_getElem?
  intro i
  by_cases hi : i ∈ vs
  · by_cases hs : i < σ.length
    · rw [wipe_none hi hs, wipe_none hi (by omega)]
    · rw [List.getElem?_eq_none (by rw [wipe_length]; omega), List.getElem?_eq_none (by rw [wipe_length]; omega)]
  · rw [wipe_at hi, wipe_at hi, h i hi]
theorem wipe_wipe {σ : Sl} {vs : List Nat} : wipe (wipe σ vs) vs = wipe σ vs := wipe_eq (wipe_length _ _) fun _ h => wipe_at h
theorem REnv.wipe {K : PySem.W.Frag} {mg : Str → Option Value} {m : List Addr} {H : Hp} {ρ : Ev} {σ : Sl} (en : REnv K mg m H ρ σ) (vs : List Nat) : REnv K mg m H (wipeE ρ vs) (L2.wipe σ vs) :=
  ⟨by rw [wipeE_len, wipe_length]; exact en.len, fun i d h => by
    obtain ⟨h1, h2⟩ := wipeE_some h
    obtain ⟨v, hv, r⟩ := en.get i d h1
    exact ⟨v, by rw [wipe_at h2]; exact hv, r⟩⟩
def R.dry {α : Type} (r : R α) : R α := match r with
  | .er _ _ => .no
  | .ok a h => .ok a h
  | .no => .no
section
open Classical
/-- the turns; the new list has the number n -/
noncomputable def cmpGo (t : D → Ev → Option Ev) (c : ST) (f : SE) (ok : Hs → Prop) (ρ : Ev) (n : Nat) : List D → Hs → R D
  | [], h => if ok h then .ok (.ref n) h else .no
  | d :: r, h => if ok h then match t d ρ with
    | some ρ1 => (c ρ1 h).dry.bind fun b h1 => match b with
      | true => (f ρ1 h1).dry.bind fun y h2 => match h2[n]? with
        | some (.lst acc) => if acc.length < sizeLine then cmpGo t c f ok ρ n r (h2.set n (.lst (acc ++ [y]))) else .no
        | _ => .no
      | false => cmpGo t c f ok ρ n r h1
    | none => .no
  else .no
/-- [elt for target in iter if ..]: a new object -/
noncomputable def sLr (s : SI) (t : D → Ev → Option Ev) (c : ST) (f : SE) (vs : List Nat) : SE := fun ρ h => (s ρ h).bind fun q h1 => cmpGo t c f q.2 (wipeE ρ vs) h1.length q.1 (h1 ++ [.lst []])
structure RTs (X : Cx) (ifs : List Expr) (f : ST) : Prop where
  run : ∀ W, Takes X W → PTs X ifs (LT X.K X.mg W f)
def sYes : ST := fun _ h => .ok true h
theorem rts_nil {X : Cx} : RTs X [] sYes := ⟨fun W tk => ⟨fun pins s σ H Q I ⟨m, ρ, h, rl, en, p⟩ => pts_nil.run pins s σ H Q I (p.ok rl rfl)⟩⟩
theorem rts_one {X : Cx} {c : Expr} {f : ST} (h : RT X c f) : RTs X [c] f := ⟨fun W tk => pts_one (h.run W tk)⟩
variable {X : Cx} {elt tg iter : Expr} {ifs : List Expr} {scope : Scope} {own : List (Str × Nat)} {pos : Pos} {fi : SI} {g : TG} {ft : D → Ev → Option Ev} {ws : List Nat} {fc : ST} {fe : SE}
theorem lc_red {K : PySem.W.Frag} {mg : Str → Option Value} {W : WX} {σ : Sl} {H : Hp} {Q : VK} {vs : List Nat} (ht : TgOk K g ft ws) (hw : ∀ j ∈ ws, j ∈ vs)
    (h : LE K mg W (sLr fi ft fc fe vs) σ H Q) : tLc (LI K mg W fi) g (LT K mg (fun _ _ _ _ => False) fc) (LE K mg (fun _ _ _ _ => False) fe) vs σ H Q := by
  obtain ⟨m, ρ, h, rl, en, p⟩ := h
  unfold sLr at p
  refine ⟨m, ρ, h, rl, en, p.bind.mono (fun J H1 ⟨m1, s, h1, e1, r1, io, p1⟩ => ?_) fun _ _ _ z => z⟩
  obtain ⟨ds, ok⟩ := s
  dsimp only at p1
  intro Dn hDn
  have ea : Ext m1 H1 (m1 ++ [Dn]) (upd H1 Dn (.lst [])) := Ext.alloc hDn
  have nn : ∀ {m2 : List Addr} {H2 : Hp}, Ext (m1 ++ [Dn]) (upd H1 Dn (.lst [])) m2 H2 → m2[h1.length]? = some Dn := fun {m2 H2} e => e.get (by rw [List.getElem?_append_right (by rw [r1.len]; omega), r1.len]; simp)
  refine ⟨fun i k H' => i ≤ ds.length ∧ k = ds.length - i ∧ ∃ m2 h2, Ext (m1 ++ [Dn]) (upd H1 Dn (.lst [])) m2 H' ∧ Rel K mg m2 H' h2 ∧
    Po K mg (RD K mg) m2 H' (cmpGo ft fc fe ok (wipeE ρ vs) h1.length (ds.drop i) h2) Q (fun c dd H' => W c dd σ H'),
    ⟨ds.length, Nat.zero_le _, rfl, m1 ++ [Dn], _, Ext.refl _ _, r1.alloc (u := .lst []) hDn ⟨[], upd_same, by simp only [RDs]⟩, by simpa using p1.ext ea⟩, ?_⟩
  rintro i k H2 ⟨hi, rfl, m2, h2, e2, r2, p2⟩
  by_cases hl : i < ds.length
  · have hd : ds.drop i = ds[i] :: ds.drop (i + 1) := List.drop_eq_getElem_cons hl
    rw [hd] at p2
    unfold cmpGo at p2
    split at p2
    · rename_i hok
      obtain ⟨go, st⟩ := (io m2 H2 h2 (ea.trans e2) r2 hok i).1 ds[i] (by simp [hl])
      refine .inr ⟨go, fun H' => ∃ m2 h2, Ext (m1 ++ [Dn]) (upd H1 Dn (.lst [])) m2 H' ∧ Rel K mg m2 H' h2 ∧
        Po K mg (RD K mg) m2 H' (cmpGo ft fc fe ok (wipeE ρ vs) h1.length (ds.drop (i + 1)) h2) Q (fun c dd H' => W c dd σ H'), fun H' n' => ⟨ds.length - (i + 1), by omega, by omega, rfl, n'⟩, fun x H3 y => ?_⟩
      obtain ⟨e3, r3, rx⟩ := st x H3 y
      split at p2
      · rename_i ρ3 hρ
        have en3 := ((en.ext e1).ext ((ea.trans e2).trans e3)).wipe vs
        refine ht.go _ m2 H3 _ x _ ρ3 _ _ rx en3 hρ fun σ3 en3 l3 k3 => ⟨?_, ?_⟩
        · rw [wipe_eq l3 fun j hj => k3 j fun hjw => hj (hw j hjw), wipe_wipe]
        have p3 := p2.ext e3
        refine ⟨m2, ρ3, h2, r3, en3, ?_⟩
        cases qc : fc ρ3 h2 with
        | no => rw [qc] at p3; exact p3.elim
        | er x5 h5 => rw [qc] at p3; exact p3.elim
        | ok b h4 =>
          rw [qc] at p3
          intro m4 H4 b' e4 r4 hb
          cases hb
          have p4 := p3.ext e4
          have e14 := e2.trans (e3.trans e4)
          cases b with
          | false =>
            rw [if_neg Bool.false_ne_true]
            exact ⟨m4, h4, e14, r4, p4⟩
          | true =>
            rw [if_pos rfl]
            refine ⟨m4, ρ3, h4, r4, en3.ext e4, ?_⟩
            simp only [R.dry, R.bind] at p4
            cases qf : fe ρ3 h4 with
            | no => rw [qf] at p4; exact p4.elim
            | er x5 h5 => rw [qf] at p4; exact p4.elim
            | ok y5 h5 =>
              rw [qf] at p4
              dsimp only at p4
              intro m5 H5 b5 e5 r5 r5y
              have hn := nn (e14.trans e5)
              split at p4
              · rename_i acc hacc
                split at p4
                · rename_i hz
                  obtain ⟨xs, hxs, ra⟩ := r5.ob _ _ _ hacc hn
                  have ew : Ext m5 H5 m5 (upd H5 Dn (.lst (xs ++ [b5]))) := Ext.write (List.mem_of_getElem? hn)
                  refine ⟨xs, hxs, by rw [← ra.len]; exact hz, m5, _, (e14.trans e5).trans ew, r5.write (u := .lst (acc ++ [y5])) hn ⟨_, upd_same, ?_⟩, (p4.ext e5).ext ew⟩
                  exact (RDs.ext ew _ _ ra).append (by simp only [RDs]; exact ⟨b5, [], rfl, RD.ext ew _ _ r5y, rfl⟩)
                · exact p4.elim
              · exact p4.elim
      · exact p2.elim
    · exact p2.elim
  · have hd : ds.drop i = [] := List.drop_eq_nil_of_le (by omega)
    rw [hd] at p2
    unfold cmpGo at p2
    split at p2
    · rename_i hok
      refine .inl ⟨(io m2 H2 h2 (ea.trans e2) r2 hok i).2 (by simpa using hl), p2.ok r2 ?_⟩
      simp only [RD]
      exact ⟨Dn, rfl, nn e2⟩
    · exact p2.elim
abbrev bk (X : Cx) (s : Shared) (H : Hp) (scope : Scope) (C : Addr) (cl : List (Str × Addr)) (fp : List Addr) : Cx := X.blk s H scope (compEnvC scope cl C X.env) fp
theorem re_lr (hc : X.calm = true) (hN : X.N.Nodup) (hi : RI X tg iter fi) (ok : BlkOk X.N X.env.scope scope own)
    (hg : ∀ (s : Shared) (H : Hp) (C : Addr) (cl : List (Str × Addr)) (fp : List Addr), PG (bk X s H scope C cl fp) tg g) (htg : TgOk X.K g ft ws) (hw : ∀ j ∈ ws, j ∈ own.map (·.2))
    (ht : ∀ (s : Shared) (H : Hp) (C : Addr) (cl : List (Str × Addr)) (fp : List Addr), RTs (bk X s H scope C cl fp) ifs fc)
    (he : ∀ (s : Shared) (H : Hp) (C : Addr) (cl : List (Str × Addr)) (fp : List Addr), RE (bk X s H scope C cl fp) elt fe) (hs : ∀ x, foldedSetIterable iter X.env x = pure x := by exact fun _ => rfl) :
    RE X (.ListComp elt [⟨tg, iter, ifs, 0⟩] scope pos) (sLr fi ft fc fe (own.map (·.2))) :=
  ⟨fun W tk => pe_imp (pe_lc hc hN (hi.run W tk) ok hg (fun s H C cl fp => (ht s H C cl fp).run _ takes_none5) (fun s H C cl fp => (he s H C cl fp).run _ takes_none5) hs) fun σ H Q h => lc_red htg hw h⟩
theorem rs_setLr {i : Nat} {y : Str} {py spos : Pos} (hc : X.calm = true) (hN : X.N.Nodup) (hy : X.N[i]? = some y) (hyl : X.env.scope.names.lookup y = some .local)
    (hsw : swapsWith (.ListComp elt [⟨tg, iter, ifs, 0⟩] scope pos) (some (.Name y py)) spos.line X.env = pure true) (hi : RI X tg iter fi) (ok : BlkOk X.N X.env.scope scope own)
    (hg : ∀ (s : Shared) (H : Hp) (C : Addr) (cl : List (Str × Addr)) (fp : List Addr), PG (bk X s H scope C cl fp) tg g) (htg : TgOk X.K g ft ws) (hw : ∀ j ∈ ws, j ∈ own.map (·.2))
    (ht : ∀ (s : Shared) (H : Hp) (C : Addr) (cl : List (Str × Addr)) (fp : List Addr), RTs (bk X s H scope C cl fp) ifs fc)
    (he : ∀ (s : Shared) (H : Hp) (C : Addr) (cl : List (Str × Addr)) (fp : List Addr), RE (bk X s H scope C cl fp) elt fe) (hs : ∀ x, foldedSetIterable iter X.env x = pure x := by exact fun _ => rfl) :
    RSt X (.Assign [.Name y py] (.ListComp elt [⟨tg, iter, ifs, 0⟩] scope pos) spos) (sSet i (sLr fi ft fc fe (own.map (·.2)))) :=
  ⟨fun W tk => ps_imp (ps_setLc hc hN hy hyl hsw (hi.run W tk) ok hg (fun s H C cl fp => (ht s H C cl fp).run _ takes_none5) (fun s H C cl fp => (he s H C cl fp).run _ takes_none5) hs) fun D σ H ⟨m, ρ, h, rl, en, p⟩ =>
    lc_red htg hw ⟨m, ρ, h, rl, en, (p.toS en).mono (fun x H1 ⟨m1, d, h1, e1, r1, ra, p1⟩ => p1.nx r1 ((en.ext e1).set i ra)) fun _ _ _ z => z⟩⟩
/-- .. that nobody writes -/
theorem rs_setL {i : Nat} {y : Str} {py spos : Pos} (hc : X.calm = true) (hN : X.N.Nodup) (hy : X.N[i]? = some y) (hyl : X.env.scope.names.lookup y = some .local)
    (hsw : swapsWith (.ListComp elt [⟨tg, iter, ifs, 0⟩] scope pos) (some (.Name y py)) spos.line X.env = pure true) (hi : RI X tg iter fi) (ok : BlkOk X.N X.env.scope scope own)
    (hg : ∀ (s : Shared) (H : Hp) (C : Addr) (cl : List (Str × Addr)) (fp : List Addr), PG (bk X s H scope C cl fp) tg g) (htg : TgOk X.K g ft ws) (hw : ∀ j ∈ ws, j ∈ own.map (·.2))
    (ht : ∀ (s : Shared) (H : Hp) (C : Addr) (cl : List (Str × Addr)) (fp : List Addr), RTs (bk X s H scope C cl fp) ifs fc)
    (he : ∀ (s : Shared) (H : Hp) (C : Addr) (cl : List (Str × Addr)) (fp : List Addr), RE (bk X s H scope C cl fp) elt fe) (hs : ∀ x, foldedSetIterable iter X.env x = pure x := by exact fun _ => rfl) :
    RSt X (.Assign [.Name y py] (.ListComp elt [⟨tg, iter, ifs, 0⟩] scope pos) spos) (sSet i (sTrim (sLr fi ft fc fe (own.map (·.2))))) :=
  ⟨fun W tk => ps_imp (ps_setLc hc hN hy hyl hsw (hi.run W tk) ok hg (fun s H C cl fp => (ht s H C cl fp).run _ takes_none5) (fun s H C cl fp => (he s H C cl fp).run _ takes_none5) hs) fun D σ H ⟨m, ρ, h, rl, en, p⟩ =>
    lc_red htg hw ⟨m, ρ, h, rl, en, Po.trim rl <| (p.toS en).mono (fun x H1 ⟨m1, d, h1, e1, r1, ra, p1⟩ => p1.nx r1 ((en.ext e1).set i ra)) fun _ _ _ z => z⟩⟩
end
end G

/-! G7: places, slices, fields, built-ins. -/
namespace G
open PySem PySem.Spec PyProof.Rows L2

/-! ### places -/
def keyD : D → Option Key
  | .int i => some (.inl i)
  | .str x => some (.inr x)
  | _ => none
def valD (kvs : List (Key × D)) (k : Key) : Option D := (kvs.find? fun kv => decide (kv.1 = k)).map (·.2)
def putD (kvs : List (Key × D)) (k : Key) (v : D) : List (Key × D) :=
  if (kvs.any fun kv => decide (kv.1 = k)) = true then kvs.map (fun kv => if kv.1 = k then (kv.1, v) else kv) else kvs ++ [(k, v)]
section
variable {K : PySem.W.Frag} {mg : Str → Option Value} {m : List Addr} {H : Hp} {h : Hs}
theorem keyD_ok {d : D} {v : V} {k : Key} (r : RD K mg m H d v) (e : keyD d = some k) : v = kV k := by
  unfold keyD at e
  split at e
  · cases e; simp only [RD] at r; exact r
  · cases e; simp only [RD] at r; exact r
  · cases e
theorem valD_ok {k : Key} : ∀ {ds : List (Key × D)} {xs : List (Key × V)}, RDk K mg m H ds xs → (∀ d, valD ds k = some d → ∃ v, valV xs k = some v ∧ RD K mg m H d v) ∧ (valD ds k = none → valV xs k = none)
  | [], xs, r => by simp only [RDk] at r; subst r; exact ⟨fun d e => by simp [valD] at e, fun _ => rfl⟩
  | (k', d') :: ds, xs, r => by
    simp only [RDk] at r
    obtain ⟨v, vr, rfl, r1, r2⟩ := r
    obtain ⟨i1, i2⟩ := valD_ok (k := k) r2
    by_cases e : k' = k
    · constructor
      · intro d hd
        simp [valD, List.find?_cons, e] at hd
        subst hd
        exact ⟨v, by rw [valV_pos e], r1⟩
      · intro hd
        simp [valD, List.find?_cons, e] at hd
    · have e1 : valD ((k', d') :: ds) k = valD ds k := by simp [valD, List.find?_cons, e]
      have e2 : valV ((k', v) :: vr) k = valV vr k := valV_neg e
      rw [e1, e2]
      exact ⟨i1, i2⟩
theorem RDk.len {ds : List (Key × D)} {xs : List (Key × V)} (r : RDk K mg m H ds xs) : ds.length = xs.length := by
  induction ds generalizing xs with
  | nil => simp only [RDk] at r; subst r; rfl
  | cons p ds ih =>
    obtain ⟨k, d⟩ := p
    simp only [RDk] at r
    obtain ⟨v, vr, rfl, _, r2⟩ := r
    simp [ih r2]
theorem RDk.any {k : Key} : ∀ {ds : List (Key × D)} {xs : List (Key × V)}, RDk K mg m H ds xs → (ds.any fun kv => decide (kv.1 = k)) = xs.any fun kv => decide (kv.1 = k)
  | [], xs, r => by simp only [RDk] at r; subst r; rfl
  | (k', d) :: ds, xs, r => by
    simp only [RDk] at r
    obtain ⟨v, vr, rfl, _, r2⟩ := r
    simp only [List.any_cons, RDk.any r2]
theorem RDk.mapPut {k : Key} {d : D} {v : V} (r0 : RD K mg m H d v) : ∀ {ds : List (Key × D)} {xs : List (Key × V)}, RDk K mg m H ds xs → RDk K mg m H (ds.map fun kv => if kv.1 = k then (kv.1, d) else kv) (xs.map fun kv => if kv.1 = k then (kv.1, v) else kv)
  | [], xs, r => by simp only [RDk] at r; subst r; simp [RDk]
  | (k', d') :: ds, xs, r => by
    simp only [RDk] at r
    obtain ⟨v', vr, rfl, r1, r2⟩ := r
    have i := RDk.mapPut (k := k) r0 r2
    by_cases e : k' = k
    · simp only [List.map_cons, e, if_true, RDk]; exact ⟨v, _, rfl, r0, i⟩
    · simp only [List.map_cons, e, if_false, RDk]; exact ⟨v', _, rfl, r1, i⟩
theorem RDk.append : ∀ {ds es : List (Key × D)} {xs ys : List (Key × V)}, RDk K mg m H ds xs → RDk K mg m H es ys → RDk K mg m H (ds ++ es) (xs ++ ys)
  | [], es, xs, ys, r, g => by simp only [RDk] at r; subst r; simpa using g
  | (k, d) :: ds, es, xs, ys, r, g => by
    simp only [RDk, List.cons_append] at r ⊢
    obtain ⟨v, vr, rfl, r1, r2⟩ := r
    exact ⟨v, vr ++ ys, rfl, r1, RDk.append r2 g⟩
theorem putD_ok {k : Key} {d : D} {v : V} {ds : List (Key × D)} {xs : List (Key × V)} (r : RDk K mg m H ds xs) (r0 : RD K mg m H d v) : RDk K mg m H (putD ds k d) (putK xs k v) := by
  unfold putD putK
  rw [r.any]
  split
  · exact r.mapPut r0
  · exact r.append (by simp only [RDk]; exact ⟨v, [], rfl, r0, rfl⟩)
theorem atI_ok {ds : List D} {xs : List V} {i : Int} {d : D} (r : RDs K mg m H ds xs) (e : atI ds i = some d) : ∃ v, atI xs i = some v ∧ RD K mg m H d v := by
  unfold atI at e ⊢
  rw [← r.len]
  obtain ⟨j, hj, hd⟩ := Option.bind_eq_some_iff.mp e
  obtain ⟨v, hv, rv⟩ := r.get hd
  exact ⟨v, by rw [hj]; exact hv, rv⟩
end
def gIx : V2 := fun p q h => match asDct p h with
  | some kvs => match keyD q with
    | some k => match valD kvs k with
      | some d => .ok d h
      | none => .no
    | none => .no
  | none => match q with
    | .int i => match p with
      | .str z => if z.length ≤ sizeLine then match atI z.cps.toList i with
        | some c => .ok (.str ⟨#[c]⟩) h
        | none => .no else .no
      | _ => match asSq p h with
        | some ds => match atI ds i with
          | some d => .ok d h
          | none => .no
        | none => .no
    | _ => .no
section
variable {X : Cx} {pos : Pos} {a b : Expr} {fa fb : SE} {k : Nat}
theorem re_ix (hr : Rm X.A) (ha : RE X a fa) (hb : RE X b fb) (hs : PlainIx b := by exact fun _ _ => rfl) : RE X (.Subscript a b pos) (sBin gIx fa fb) :=
  ⟨fun W tk => pe_imp (pe_or (pe_ix ix_seq (ha.run W tk) (hb.run W tk) hs) (pe_dget (hr.hu) (ha.run W tk) (hb.run W tk) hs)) fun σ H Q ⟨m, ρ, h, rl, en, p⟩ => by
    -- which of both is told by the values
    cases qa : fa ρ h with
    | no => unfold sBin at p; rw [qa] at p; exact p.elim
    | er x h1 => unfold sBin at p; rw [qa] at p; refine .inl ⟨m, ρ, h, rl, en, ?_⟩; rw [qa]; exact p
    | ok u h1 =>
      have p0 := p
      unfold sBin at p; rw [qa] at p
      simp only [R.bind] at p
      have go : ∀ (T : V → V → Hp → VK → Prop), (∀ (m2 : List Addr) (H2 : Hp) (v : D) (h2 : Hs) (x y : V), Rel X.K X.mg m2 H2 h2 → RD X.K X.mg m2 H2 u x → RD X.K X.mg m2 H2 v y → fb ρ h1 = .ok v h2 → Po X.K X.mg (RD X.K X.mg) m2 H2 (gIx u v h2) Q (fun c dd H' => W c dd σ H') → T x y H2 Q) →
          LE X.K X.mg W fa σ H fun x H1 => LE X.K X.mg W fb σ H1 fun y H2 => T x y H2 Q := fun T hT => by
        refine ⟨m, ρ, h, rl, en, ?_⟩
        rw [qa]
        intro m1 H1 x e1 r1 ra
        refine ⟨m1, ρ, h1, r1, en.ext e1, ?_⟩
        have p1 := p.ext e1
        cases qb : fb ρ h1 with
        | no => rw [qb] at p1; exact p1.elim
        | er x5 h5 => rw [qb] at p1; exact p1
        | ok v h2 =>
          rw [qb] at p1
          exact fun m2 H2 y e2 r2 rb => hT m2 H2 v h2 x y r2 (RD.ext e2 _ _ ra) rb qb (p1.ext e2)
      cases qb : fb ρ h1 with
      | no => rw [qb] at p; exact p.elim
      | er x5 h5 => exact .inl (go (rIx X.K) fun m2 H2 v h2 x y r2 ra rb q _ => by rw [qb] at q; cases q)
      | ok v h2 =>
        cases qd : asDct u h2 with
        | some kvs =>
          refine .inr (go (fun x y H2 Q => ∃ a v, x = .ref a ∧ DGet H2 a y (some v) ∧ Q v H2) fun m2 H2 v' h2' x y r2 ra rb q p2 => ?_)
          rw [qb] at q; cases q
          unfold gIx at p2
          rw [qd] at p2
          dsimp only at p2
          split at p2
          · rename_i kk hk
            split at p2
            · rename_i d hd
              obtain ⟨a, xs, rfl, f, rk⟩ := asDct_ok r2 ra qd
              obtain ⟨w, hw, rw'⟩ := (valD_ok rk).1 d hd
              rw [keyD_ok rb hk]
              exact ⟨a, w, rfl, by rw [← hw]; exact DGet.k f, p2.ok r2 rw'⟩
            · exact p2.elim
          · exact p2.elim
        | none =>
          refine .inl (go (rIx X.K) fun m2 H2 v' h2' x y r2 ra rb q p2 => ?_)
          rw [qb] at q; cases q
          unfold gIx at p2
          rw [qd] at p2
          dsimp only at p2
          split at p2
          · rename_i i
            simp only [RD] at rb; subst rb
            split at p2
            · rename_i z
              simp only [RD] at ra; subst ra
              split at p2
              · rename_i hz
                split at p2
                · rename_i c hc
                  exact .inr (.inr ⟨z, i, c, rfl, rfl, hz, hc, p2.ok r2 (by simp only [RD])⟩)
                · exact p2.elim
              · exact p2.elim
            · split at p2
              · rename_i ds hds
                split at p2
                · rename_i d hd
                  obtain ⟨a, xs, rfl, f, rs⟩ := asSq_ok r2 ra hds
                  obtain ⟨w, hw, rw'⟩ := atI_ok rs hd
                  rcases f with f | f
                  · exact .inl ⟨a, xs, i, w, rfl, rfl, f, hw, p2.ok r2 rw'⟩
                  · exact .inr (.inl ⟨a, xs, i, w, rfl, rfl, f, hw, p2.ok r2 rw'⟩)
                · exact p2.elim
              · exact p2.elim
          · exact p2.elim⟩
end
/-! ### slices -/
def cutD (ds : List D) (lo hi : Option Int) : List D := (ds.drop (HT.sIx ds.length 0 lo)).take (HT.sIx ds.length ds.length hi - HT.sIx ds.length 0 lo)
theorem cutD_ok {K : PySem.W.Frag} {mg : Str → Option Value} {m : List Addr} {H : Hp} {ds : List D} {xs : List V} {lo hi : Option Int} (r : RDs K mg m H ds xs) : RDs K mg m H (cutD ds lo hi) (cutV xs lo hi) := by
  unfold cutD cutV
  rw [r.len]
  exact (r.drop _).take _
/-- a list, the script too -/
def asSqL (d : D) (h : Hs) : Option (List D) := match d with
  | .scr ds => some ds
  | _ => asLst d h
theorem asSqL_ok {K : PySem.W.Frag} {mg : Str → Option Value} {m : List Addr} {H : Hp} {h : Hs} {d : D} {v : V} {ds : List D} (rl : Rel K mg m H h) (r : RD K mg m H d v) (e : asSqL d h = some ds) : ∃ a xs, v = .ref a ∧ SqL K H a xs ∧ RDs K mg m H ds xs := by
  unfold asSqL at e
  split at e
  · cases e
    simp only [RD] at r
    obtain ⟨a, xs, rfl, f, rs⟩ := r
    exact ⟨a, xs, rfl, f.sq, rs⟩
  · obtain ⟨a, xs, rfl, f, rs⟩ := asLst_ok rl r e
    exact ⟨a, xs, rfl, SqL.of f, rs⟩
def gSl (p : D) (lo hi : Option Int) (h : Hs) : R D := match p with
  | .str z => if z.length ≤ sizeLine then .ok (.str (cutS z lo hi)) h else .no
  | .tup ds => .ok (.tup (cutD ds lo hi)) h
  | _ => match asSqL p h with
    | some ds => .ok (.lst (cutD ds lo hi)) h
    | none => .no
abbrev SO := Ev → Hs → R (Option Int)
abbrev rO : List Addr → Hp → Option Int → Option Int → Prop := fun _ _ a b => a = b
def LO (K : PySem.W.Frag) (mg : Str → Option Value) (W : WX) (f : SO) : TO := fun σ H Q => ∃ m ρ h, Rel K mg m H h ∧ REnv K mg m H ρ σ ∧ Po K mg rO m H (f ρ h) Q (fun c dd H' => W c dd σ H')
structure ROp (X : Cx) (e : Option Expr) (f : SO) : Prop where
  run : ∀ W, Takes X W → PO X e (LO X.K X.mg W f)
def sPart (f : SE) : SO := fun ρ h => (f ρ h).bind fun d h1 => match d with
  | .int i => .ok (some i) h1
  | _ => .no
def sNoPart : SO := fun _ h => .ok none h
section
variable {X : Cx} {pos p2 : Pos} {e : Expr} {lo hi : Option Expr} {fe : SE} {fl fh : SO}
theorem ro_none : ROp X none sNoPart := ⟨fun W _ => ⟨fun pins s σ H Q I ⟨m, ρ, h, rl, en, p⟩ => po_none.run pins s σ H Q I (p.ok rl rfl)⟩⟩
theorem ro_some (he : RE X e fe) : ROp X (some e) (sPart fe) := ⟨fun W tk => ⟨fun pins s σ H Q I ⟨m, ρ, h, rl, en, p⟩ => (po_some (he.run W tk)).run pins s σ H Q I ⟨m, ρ, h, rl, en, p.bind.mono (fun x H1 ⟨m1, d, h1, e1, r1, ra, p1⟩ => by
  split at p1
  · simp only [RD] at ra; subst ra; exact ⟨_, rfl, p1.ok r1 rfl⟩
  · exact p1.elim) fun _ _ _ z => z⟩⟩⟩
def sSl (fe : SE) (fl fh : SO) : SE := fun ρ h => (fe ρ h).bind fun d h1 => (fl ρ h1).bind fun l h2 => (fh ρ h2).bind fun u h3 => gSl d l u h3
theorem sx_ge {n : Nat} {o : Option Int} (h : HT.sIx n n o = n) : HT.sIx n n o = n := h
theorem re_sl (he : RE X e fe) (hl : ROp X lo fl) (hh : ROp X hi fh) : RE X (.Subscript e (.Slice lo hi none p2) pos) (sSl fe fl fh) :=
  ⟨fun W tk => pe_imp (pe_slice (sl_str.or (sl_tupA.or sl_list)) (he.run W tk) (hl.run W tk) (hh.run W tk)) fun σ H Q ⟨m, ρ, h, rl, en, p⟩ => ⟨m, ρ, h, rl, en, p.bind.mono (fun x H1 ⟨m1, d, h1, e1, r1, ra, p1⟩ =>
    ⟨m1, ρ, h1, r1, en.ext e1, p1.bind.mono (fun l H2 ⟨m2, l', h2, e2, r2, rb, p2⟩ => ⟨m2, ρ, h2, r2, (en.ext e1).ext e2, p2.bind.mono (fun u H3 ⟨m3, u', h3, e3, r3, rc, p3⟩ => by
      cases rb; cases rc
      have ra := RD.ext e3 _ _ (RD.ext e2 _ _ ra)
      unfold gSl at p3
      split at p3
      · split at p3
        · simp only [RD] at ra; subst ra
          exact .inl ⟨_, rfl, by assumption, p3.ok r3 (by simp only [RD])⟩
        · exact p3.elim
      · obtain ⟨a, xs, rfl, f, rs⟩ := RD.tup_fz ra
        refine .inr (.inl ⟨a, xs, rfl, f.sq, fun hw => ?_, fun hw p hp => p3.newT r3 hp (cutD_ok rs)⟩)
        refine p3.ok r3 ?_
        have e : ∀ ds : List D, RDs X.K X.mg m3 H3 ds xs → cutD ds l u = ds := fun ds rs => by
          unfold cutD
          rw [rs.len, hw.1, hw.2, ← rs.len]
          simp
        rw [e _ rs]
        exact ra
      · split at p3
        · rename_i ds hds
          obtain ⟨a, xs, rfl, f, rs⟩ := asSqL_ok r3 ra hds
          exact .inr (.inr ⟨a, xs, rfl, f, fun p hp => p3.newL r3 hp (cutD_ok rs)⟩)
        · exact p3.elim) fun _ _ _ z => z⟩) fun _ _ _ z => z⟩) fun _ _ _ z => z⟩⟩
/-! ### displays -/
variable {es : List Expr} {fa : SA}
def sTup (f : SA) : SE := fun ρ h => (f ρ h).bind fun ds h1 => if ds.length ≤ sizeLine then .ok (.tup ds) h1 else .no
def sLst (f : SA) : SE := fun ρ h => (f ρ h).bind fun ds h1 => if ds.length ≤ sizeLine then .ok (.lst ds) h1 else .no
def sLstR (f : SA) : SE := fun ρ h => (f ρ h).bind fun ds h1 => if ds.length ≤ sizeLine then .ok (.ref h1.length) (h1 ++ [.lst ds]) else .no
theorem re_tup {x1} (ha : RA X es fa) : RE X (.Tuple es x1 pos) (sTup fa) :=
  ⟨fun W tk => pe_imp (pe_tup (ha.run W tk)) fun σ H Q ⟨m, ρ, h, rl, en, p⟩ => ⟨m, ρ, h, rl, en, p.bind.mono (fun xs H1 ⟨m1, ds, h1, e1, r1, ra, p1⟩ => by
    split at p1
    · exact ⟨by rw [← ra.len]; assumption, fun p hp => p1.newT r1 hp ra⟩
    · exact p1.elim) fun _ _ _ z => z⟩⟩
theorem re_lst (ha : RA X es fa) : RE X (.List es pos) (sLst fa) :=
  ⟨fun W tk => pe_imp (pe_lst (ha.run W tk)) fun σ H Q ⟨m, ρ, h, rl, en, p⟩ => ⟨m, ρ, h, rl, en, p.bind.mono (fun xs H1 ⟨m1, ds, h1, e1, r1, ra, p1⟩ => by
    split at p1
    · exact ⟨by rw [← ra.len]; assumption, fun p hp => p1.newL r1 hp ra⟩
    · exact p1.elim) fun _ _ _ z => z⟩⟩
theorem re_lstR (ha : RA X es fa) : RE X (.List es pos) (sLstR fa) :=
  ⟨fun W tk => pe_imp (pe_lst (ha.run W tk)) fun σ H Q ⟨m, ρ, h, rl, en, p⟩ => ⟨m, ρ, h, rl, en, p.bind.mono (fun xs H1 ⟨m1, ds, h1, e1, r1, ra, p1⟩ => by
    split at p1
    · exact ⟨by rw [← ra.len]; assumption, fun p hp => p1.newR r1 hp ra⟩
    · exact p1.elim) fun _ _ _ z => z⟩⟩
end
/-! ### fields -/
theorem RDf.look {K : PySem.W.Frag} {mg : Str → Option Value} {m : List Addr} {H : Hp} {f : Str} : ∀ {ds : List (Str × D)} {xs : List (Str × V)}, RDf K mg m H ds xs → (∀ d, ds.lookup f = some d → ∃ v, xs.lookup f = some v ∧ RD K mg m H d v) ∧ (ds.lookup f = none → xs.lookup f = none)
  | [], xs, r => by simp only [RDf] at r; subst r; exact ⟨fun d e => by simp at e, fun _ => rfl⟩
  | (k', d') :: ds, xs, r => by
    simp only [RDf] at r
    obtain ⟨v, vr, rfl, r1, r2⟩ := r
    obtain ⟨i1, i2⟩ := RDf.look (f := f) r2
    simp only [List.lookup_cons]
    cases (f == k') with
    | true => exact ⟨fun d e => by cases e; exact ⟨v, rfl, r1⟩, fun e => by cases e⟩
    | false => exact ⟨i1, i2⟩
def putFD (f : Str) (v : D) : List (Str × D) → List (Str × D)
  | [] => [(f, v)]
  | (g, u) :: r => if g = f then (g, v) :: r else (g, u) :: putFD f v r
/-- what the classes cs have: they are classes of the text, none has an attribute f of its own -/
def FldOk (K : PySem.W.Frag) (mg : Str → Option Value) (cs : List Str) (f : Str) : Prop := ∀ c ∈ cs, ∀ C, mg c = some (.ref C) → Cls K C ∧ NoAttr K C f
def gFld (cs : List Str) (f : Str) : V1 := fun d h => match asIns d h with
  | some (c, fs) => if c ∈ cs then match fs.lookup f with
    | some v => .ok v h
    | none => .no else .no
  | none => .no
def sFldD (cs : List Str) (f : Str) (fe : SE) : SE := fun ρ h => (fe ρ h).bind fun d h1 => gFld cs f d h1
section
variable {X : Cx} {pos : Pos} {e : Expr} {fe : SE} {f : Str} {cs : List Str}
theorem re_fld (hf : FldOk X.K X.mg cs f) (he : RE X e fe) (hb : attributeBase e f X.env (eval e X.env) = eval e X.env := by rfl) : RE X (.Attribute e f pos) (sFldD cs f fe) :=
  ⟨fun W tk => pe_imp (pe_fld (he.run W tk) hb) fun σ H Q ⟨m, ρ, h, rl, en, p⟩ => ⟨m, ρ, h, rl, en, p.bind.mono (fun x H1 ⟨m1, d, h1, e1, r1, ra, p1⟩ => by
    unfold gFld at p1
    split at p1
    · rename_i c fs hi
      split at p1
      · rename_i hc
        split at p1
        · rename_i v hv
          obtain ⟨a, C, dx, ys, rfl, g, fH, rf⟩ := asIns_ok r1 ra hi
          obtain ⟨u, hu, ru⟩ := rf.look.1 v hv
          obtain ⟨k1, k2⟩ := hf c hc C g
          exact ⟨a, C, dx, ys, u, rfl, fH, k1, k2, hu, p1.ok r1 ru⟩
        · exact p1.elim
      · exact p1.elim
    · exact p1.elim) fun _ _ _ z => z⟩⟩
end
end G

/-! G8: built-ins, methods of lists and texts, isinstance. -/
namespace G
open PySem PySem.Spec PyProof.Rows L2

abbrev VA := List D → Hs → R D
def CallOk (K : PySem.W.Frag) (mg : Str → Option Value) (g : VA) (r : List V → Hp → VK → Prop) : Prop := ∀ (m : List Addr) (H : Hp) (h : Hs) (ds : List D) (vs : List V) (Q : VK) (Wx : XK), Rel K mg m H h → RDs K mg m H ds vs → Po K mg (RD K mg) m H (g ds h) Q Wx → r vs H Q
def sCallB (g : VA) (fa : SA) : SE := fun ρ h => (fa ρ h).bind g
section
variable {X : Cx} {x : Str} {p pos : Pos} {e : Expr} {es : List Expr} {fa : SA} {id T : String} {r : List V → Hp → VK → Prop} {g : VA}
theorem le_callB {K : PySem.W.Frag} {mg : Str → Option Value} (hg : CallOk K mg g r) {W : WX} {σ : Sl} {H : Hp} {Q : VK} (h : LE K mg W (sCallB g fa) σ H Q) : tCB r (LA K mg W fa) σ H Q := by
  obtain ⟨m, ρ, h, rl, en, p⟩ := h
  exact ⟨m, ρ, h, rl, en, p.bind.mono (fun xs H1 ⟨m1, ds, h1, e1, r1, ra, p1⟩ => hg m1 H1 h1 ds xs Q _ r1 ra p1) fun _ _ _ z => z⟩
theorem re_callB (hc : CallR X (.builtin id) r) (hk : CallOk X.K X.mg g r) (hg : Gl X x) (hm : X.mg x = none) (hv : bootBuiltins x = some (.builtin id)) (ha : RA X (e :: es) fa) (hn : x ≠ "__name__" := by decide) (hdb : (x == ("__debug__" : Str)) = false := by decide)
    (he : starEach (e :: es) X.env = (false, eval e X.env) :: starEach es X.env := by rfl) (hpl : (backTo pos (starEach es X.env)).any (·.1) = false := by rfl) : RE X (.Call (.Name x p) (e :: es) [] pos) (sCallB g fa) :=
  ⟨fun W tk => pe_imp (pe_callB hc hg hm hv (ha.run W tk) hn hdb he hpl) fun σ H Q h => le_callB hk h⟩
theorem re_callTy (hc : CallR X (.type T) r) (hk : CallOk X.K X.mg g r) (hg : Gl X x) (hm : X.mg x = none) (hv : bootBuiltins x = some (.type T)) (ha : RA X (e :: es) fa) (hn : x ≠ "__name__" := by decide) (hdb : (x == ("__debug__" : Str)) = false := by decide)
    (he : starEach (e :: es) X.env = (false, eval e X.env) :: starEach es X.env := by rfl) (hpl : (backTo pos (starEach es X.env)).any (·.1) = false := by rfl) : RE X (.Call (.Name x p) (e :: es) [] pos) (sCallB g fa) :=
  ⟨fun W tk => pe_imp (pe_callTy hc hg hm hv (ha.run W tk) hn hdb he hpl) fun σ H Q h => le_callB hk h⟩
end
section
variable {K : PySem.W.Frag} {mg : Str → Option Value} {m : List Addr} {H : Hp} {h : Hs}
theorem RDs.one {d : D} {vs : List V} (r : RDs K mg m H [d] vs) : ∃ v, vs = [v] ∧ RD K mg m H d v := by
  simp only [RDs] at r
  obtain ⟨v, _, rfl, r, rfl⟩ := r
  exact ⟨v, rfl, r⟩
theorem RDs.two {d e : D} {vs : List V} (r : RDs K mg m H [d, e] vs) : ∃ v w, vs = [v, w] ∧ RD K mg m H d v ∧ RD K mg m H e w := by
  simp only [RDs] at r
  obtain ⟨v, _, rfl, r, w, _, rfl, r2, rfl⟩ := r
  exact ⟨v, w, rfl, r, r2⟩
end
/-! ### len -/
def gLen : VA := fun ds h => match ds with
  | [d] => match d with
    | .str y => if y.length ≤ sizeLine then .ok (.int y.length) h else .no
    | _ => match asSq d h with
      | some xs => .ok (.int xs.length) h
      | none => match asDct d h with
        | some kvs => .ok (.int kvs.length) h
        | none => .no
  | _ => .no
abbrev rLenU (K : PySem.W.Frag) : List V → Hp → VK → Prop := fun xs H Q => (∃ x n, xs = [x] ∧ LenV K x H n ∧ Q (.int n) H) ∨ ∃ a kvs, xs = [V.ref a] ∧ H a = some (.dK kvs) ∧ Q (.int kvs.length) H
theorem g_len {K : PySem.W.Frag} {mg : Str → Option Value} : CallOk K mg gLen (rLenU K) := by
  intro m H h ds vs Q Wx rl rs po
  unfold gLen at po
  split at po
  · obtain ⟨v, rfl, r⟩ := rs.one
    split at po
    · split at po
      · simp only [RD] at r; subst r
        exact .inl ⟨_, _, rfl, ⟨by assumption, rfl⟩, po.ok rl (by simp only [RD])⟩
      · exact po.elim
    · split at po
      · rename_i xs hx
        obtain ⟨a, ys, rfl, f, rs⟩ := asSq_ok rl r hx
        exact .inl ⟨.ref a, ys.length, rfl, f.imp (fun z => ⟨ys, z, rfl⟩) (fun z => ⟨ys, z, rfl⟩), by rw [← rs.len]; exact po.ok rl (by simp only [RD])⟩
      · split at po
        · rename_i kvs hx
          obtain ⟨a, ys, rfl, f, rs⟩ := asDct_ok rl r hx
          exact .inr ⟨a, ys, rfl, f, by rw [← rs.len]; exact po.ok rl (by simp only [RD])⟩
        · exact po.elim
  · exact po.elim
/-! ### numbers -/
def intsD : List D → Option (List Int)
  | [] => some []
  | .int i :: r => (intsD r).map (i :: ·)
  | _ => none
def blsD : List D → Option (List Bool)
  | [] => some []
  | .bl i :: r => (blsD r).map (i :: ·)
  | _ => none
def strsD : List D → Option (List Str)
  | [] => some []
  | .str i :: r => (strsD r).map (i :: ·)
  | _ => none
theorem intsD_eq : ∀ {ds : List D} {ns : List Int}, intsD ds = some ns → ds = ns.map .int
  | [], ns, e => by cases e; rfl
  | d :: r, ns, e => by
    cases d <;> first
      | (simp only [intsD] at e
         obtain ⟨l, hl, rfl⟩ := Option.map_eq_some_iff.mp e
         rw [intsD_eq hl]; rfl)
      | cases e
theorem blsD_eq : ∀ {ds : List D} {ns : List Bool}, blsD ds = some ns → ds = ns.map .bl
  | [], ns, e => by cases e; rfl
  | d :: r, ns, e => by
    cases d <;> first
      | (simp only [blsD] at e
         obtain ⟨l, hl, rfl⟩ := Option.map_eq_some_iff.mp e
         rw [blsD_eq hl]; rfl)
      | cases e
theorem strsD_eq : ∀ {ds : List D} {ns : List Str}, strsD ds = some ns → ds = ns.map .str
  | [], ns, e => by cases e; rfl
  | d :: r, ns, e => by
    cases d <;> first
      | (simp only [strsD] at e
         obtain ⟨l, hl, rfl⟩ := Option.map_eq_some_iff.mp e
         rw [strsD_eq hl]; rfl)
      | cases e
@[simp] theorem intsD_map (ns : List Int) : intsD (ns.map .int) = some ns := by induction ns <;> simp_all [intsD]
@[simp] theorem blsD_map (ns : List Bool) : blsD (ns.map .bl) = some ns := by induction ns <;> simp_all [blsD]
@[simp] theorem strsD_map (ns : List Str) : strsD (ns.map .str) = some ns := by induction ns <;> simp_all [strsD]
/-- the list's ints -/
def asInts (d : D) (h : Hs) : Option (List Int) := (asSqL d h).bind intsD
def asBls (d : D) (h : Hs) : Option (List Bool) := (asSqL d h).bind blsD
def asStrs (d : D) (h : Hs) : Option (List Str) := (asSq d h).bind strsD
def asStrsL (d : D) (h : Hs) : Option (List Str) := (asSqL d h).bind strsD
section
variable {K : PySem.W.Frag} {mg : Str → Option Value} {m : List Addr} {H : Hp} {h : Hs} {d : D} {v : V}
theorem asInts_ok {ns : List Int} (rl : Rel K mg m H h) (r : RD K mg m H d v) (e : asInts d h = some ns) : ∃ a, v = .ref a ∧ SqL K H a (ns.map V.int) := by
  obtain ⟨ds, hd, hn⟩ := Option.bind_eq_some_iff.mp e
  obtain ⟨a, xs, rfl, f, rs⟩ := asSqL_ok rl r hd
  rw [intsD_eq hn] at rs
  exact ⟨a, rfl, by rw [← rs.ints]; exact f⟩
theorem asBls_ok {ns : List Bool} (rl : Rel K mg m H h) (r : RD K mg m H d v) (e : asBls d h = some ns) : ∃ a, v = .ref a ∧ SqL K H a (ns.map V.bl) := by
  obtain ⟨ds, hd, hn⟩ := Option.bind_eq_some_iff.mp e
  obtain ⟨a, xs, rfl, f, rs⟩ := asSqL_ok rl r hd
  rw [blsD_eq hn] at rs
  exact ⟨a, rfl, by rw [← rs.bls]; exact f⟩
theorem asStrsL_ok {ns : List Str} (rl : Rel K mg m H h) (r : RD K mg m H d v) (e : asStrsL d h = some ns) : ∃ a, v = .ref a ∧ SqL K H a (ns.map V.str) := by
  obtain ⟨ds, hd, hn⟩ := Option.bind_eq_some_iff.mp e
  obtain ⟨a, xs, rfl, f, rs⟩ := asSqL_ok rl r hd
  rw [strsD_eq hn] at rs
  exact ⟨a, rfl, by rw [← rs.strs]; exact f⟩
theorem asStrs_ok {ns : List Str} (rl : Rel K mg m H h) (r : RD K mg m H d v) (e : asStrs d h = some ns) : ∃ a, v = .ref a ∧ (SqL K H a (ns.map V.str) ∨ SqT K H a (ns.map V.str)) := by
  obtain ⟨ds, hd, hn⟩ := Option.bind_eq_some_iff.mp e
  obtain ⟨a, xs, rfl, f, rs⟩ := asSq_ok rl r hd
  rw [strsD_eq hn] at rs
  exact ⟨a, rfl, by rw [← rs.strs]; exact f⟩
end
def maxL : List Int → Int
  | [] => 0
  | x :: r => r.foldl max x
def minL : List Int → Int
  | [] => 0
  | x :: r => r.foldl min x
theorem foldl_max_spec : ∀ (r : List Int) (x : Int), (r.foldl max x ∈ x :: r) ∧ ∀ y ∈ x :: r, y ≤ r.foldl max x
  | [], x => by simp
  | a :: r, x => by
    obtain ⟨h1, h2⟩ := foldl_max_spec r (max x a)
    simp only [List.foldl_cons]
    constructor
    · rcases List.mem_cons.mp h1 with h | h
      · rw [h]
        by_cases c : x ≤ a
        · rw [Int.max_eq_right c]; simp
        · rw [Int.max_eq_left (by omega)]; simp
      · simp [h]
    · intro y hy
      have hm := h2 (max x a) (by simp)
      rcases List.mem_cons.mp hy with rfl | hy
      · omega
      · rcases List.mem_cons.mp hy with rfl | hy
        · omega
        · exact h2 y (by simp [hy])
theorem foldl_min_spec : ∀ (r : List Int) (x : Int), (r.foldl min x ∈ x :: r) ∧ ∀ y ∈ x :: r, r.foldl min x ≤ y
  | [], x => by simp
  | a :: r, x => by
    obtain ⟨h1, h2⟩ := foldl_min_spec r (min x a)
    simp only [List.foldl_cons]
    constructor
    · rcases List.mem_cons.mp h1 with h | h
      · rw [h]
        by_cases c : x ≤ a
        · rw [Int.min_eq_left c]; simp
        · rw [Int.min_eq_right (by omega)]; simp
      · simp [h]
    · intro y hy
      have hm := h2 (min x a) (by simp)
      rcases List.mem_cons.mp hy with rfl | hy
      · omega
      · rcases List.mem_cons.mp hy with rfl | hy
        · omega
        · exact h2 y (by simp [hy])
def gMax : VA := fun ds h => match ds with
  | [.int i, .int j] => .ok (.int (if j > i then j else i)) h
  | [d] => match asInts d h with
    | some (x :: r) => .ok (.int (maxL (x :: r))) h
    | _ => .no
  | _ => .no
def gMin : VA := fun ds h => match ds with
  | [.int i, .int j] => .ok (.int (if j < i then j else i)) h
  | [d] => match asInts d h with
    | some (x :: r) => .ok (.int (minL (x :: r))) h
    | _ => .no
  | _ => .no
theorem g_max {K : PySem.W.Frag} {mg : Str → Option Value} : CallOk K mg gMax (fun xs H Q => (∃ i j, xs = [.int i, .int j] ∧ Q (.int (if j > i then j else i)) H) ∨ rMax K xs H Q) := by
  intro m H h ds vs Q Wx rl rs po
  unfold gMax at po
  split at po
  · obtain ⟨v, w, rfl, r1, r2⟩ := rs.two
    simp only [RD] at r1 r2; subst r1 r2
    exact .inl ⟨_, _, rfl, po.ok rl (by simp only [RD])⟩
  · obtain ⟨v, rfl, r⟩ := rs.one
    split at po
    · rename_i x r' hx
      obtain ⟨a, rfl, f⟩ := asInts_ok rl r hx
      obtain ⟨s1, s2⟩ := foldl_max_spec r' x
      refine .inr ⟨a, x :: r', rfl, f, by simp, fun k hk hm => ?_⟩
      have : k = maxL (x :: r') := Int.le_antisymm (s2 k hk) (hm _ s1)
      rw [this]
      exact po.ok rl (by simp only [RD])
    · exact po.elim
  · exact po.elim
theorem g_min {K : PySem.W.Frag} {mg : Str → Option Value} : CallOk K mg gMin (fun xs H Q => (∃ i j, xs = [.int i, .int j] ∧ Q (.int (if j < i then j else i)) H) ∨ rMin K xs H Q) := by
  intro m H h ds vs Q Wx rl rs po
  unfold gMin at po
  split at po
  · obtain ⟨v, w, rfl, r1, r2⟩ := rs.two
    simp only [RD] at r1 r2; subst r1 r2
    exact .inl ⟨_, _, rfl, po.ok rl (by simp only [RD])⟩
  · obtain ⟨v, rfl, r⟩ := rs.one
    split at po
    · rename_i x r' hx
      obtain ⟨a, rfl, f⟩ := asInts_ok rl r hx
      obtain ⟨s1, s2⟩ := foldl_min_spec r' x
      refine .inr ⟨a, x :: r', rfl, f, by simp, fun k hk hm => ?_⟩
      have : k = minL (x :: r') := Int.le_antisymm (hm _ s1) (s2 k hk)
      rw [this]
      exact po.ok rl (by simp only [RD])
    · exact po.elim
  · exact po.elim
def gAbs : VA := fun ds h => match ds with
  | [.int i] => .ok (.int (if i < 0 then -i else i)) h
  | _ => .no
theorem g_abs {K : PySem.W.Frag} {mg : Str → Option Value} : CallOk K mg gAbs (fun xs H Q => ∃ i, xs = [.int i] ∧ Q (.int (if i < 0 then -i else i)) H) := by
  intro m H h ds vs Q Wx rl rs po
  unfold gAbs at po
  split at po
  · obtain ⟨v, rfl, r⟩ := rs.one
    simp only [RD] at r; subst r
    exact ⟨_, rfl, po.ok rl (by simp only [RD])⟩
  · exact po.elim
def gSum : VA := fun ds h => match ds with
  | [d] => match asInts d h with
    | some ns => .ok (.int ns.sum) h
    | none => .no
  | _ => .no
theorem g_sum {K : PySem.W.Frag} {mg : Str → Option Value} : CallOk K mg gSum (rSum K) := by
  intro m H h ds vs Q Wx rl rs po
  unfold gSum at po
  split at po
  · obtain ⟨v, rfl, r⟩ := rs.one
    split at po
    · rename_i ns hx
      obtain ⟨a, rfl, f⟩ := asInts_ok rl r hx
      exact ⟨a, ns, rfl, f, po.ok rl (by simp only [RD])⟩
    · exact po.elim
  · exact po.elim
def gAll : VA := fun ds h => match ds with
  | [d] => match asBls d h with
    | some ns => .ok (.bl (ns.all id)) h
    | none => .no
  | _ => .no
def gAny : VA := fun ds h => match ds with
  | [d] => match asBls d h with
    | some ns => .ok (.bl (ns.any id)) h
    | none => .no
  | _ => .no
theorem g_all {K : PySem.W.Frag} {mg : Str → Option Value} : CallOk K mg gAll (rAll K) := by
  intro m H h ds vs Q Wx rl rs po
  unfold gAll at po
  split at po
  · obtain ⟨v, rfl, r⟩ := rs.one
    split at po
    · rename_i ns hx
      obtain ⟨a, rfl, f⟩ := asBls_ok rl r hx
      exact ⟨a, ns, rfl, f, po.ok rl (by simp only [RD])⟩
    · exact po.elim
  · exact po.elim
theorem g_any {K : PySem.W.Frag} {mg : Str → Option Value} : CallOk K mg gAny (rAny K) := by
  intro m H h ds vs Q Wx rl rs po
  unfold gAny at po
  split at po
  · obtain ⟨v, rfl, r⟩ := rs.one
    split at po
    · rename_i ns hx
      obtain ⟨a, rfl, f⟩ := asBls_ok rl r hx
      exact ⟨a, ns, rfl, f, po.ok rl (by simp only [RD])⟩
    · exact po.elim
  · exact po.elim
/-! ### str, int, tuple, list -/
def smallI (i : Int) : Prop := i.natAbs.log2 < 1920
instance (i : Int) : Decidable (smallI i) := by unfold smallI; infer_instance
def gStr : VA := fun ds h => match ds with
  | [.int i] => if smallI i then .ok (.str (toString i)) h else .no
  | [.str a] => .ok (.str a) h
  | _ => .no
theorem g_str {K : PySem.W.Frag} {mg : Str → Option Value} : CallOk K mg gStr (fun xs H Q => (∃ i, xs = [.int i] ∧ i.natAbs.log2 < 1920 ∧ Q (.str (toString i)) H) ∨ ∃ a, xs = [.str a] ∧ Q (.str a) H) := by
  intro m H h ds vs Q Wx rl rs po
  unfold gStr at po
  split at po
  · obtain ⟨v, rfl, r⟩ := rs.one
    simp only [RD] at r; subst r
    split at po
    · exact .inl ⟨_, rfl, by assumption, po.ok rl (by simp only [RD])⟩
    · exact po.elim
  · obtain ⟨v, rfl, r⟩ := rs.one
    simp only [RD] at r; subst r
    exact .inr ⟨_, rfl, po.ok rl (by simp only [RD])⟩
  · exact po.elim
def gInt : VA := fun ds h => match ds with
  | [.int i] => .ok (.int i) h
  | [.bl b] => .ok (.int (if b then 1 else 0)) h
  | [.str a] => match PySem.intText? a with
    | some n => if a.length ≤ 640 then .ok (.int n) h else .no
    | none => .no
  | _ => .no
theorem g_int {K : PySem.W.Frag} {mg : Str → Option Value} : CallOk K mg gInt (fun xs H Q => ((∃ i, xs = [.int i] ∧ Q (.int i) H) ∨ ∃ k, xs = [.bl k] ∧ Q (.int (if k then 1 else 0)) H) ∨ ∃ a n, xs = [.str a] ∧ PySem.intText? a = some n ∧ a.length ≤ 640 ∧ Q (.int n) H) := by
  intro m H h ds vs Q Wx rl rs po
  unfold gInt at po
  split at po
  · obtain ⟨v, rfl, r⟩ := rs.one
    simp only [RD] at r; subst r
    exact .inl (.inl ⟨_, rfl, po.ok rl (by simp only [RD])⟩)
  · obtain ⟨v, rfl, r⟩ := rs.one
    simp only [RD] at r; subst r
    exact .inl (.inr ⟨_, rfl, po.ok rl (by simp only [RD])⟩)
  · obtain ⟨v, rfl, r⟩ := rs.one
    simp only [RD] at r; subst r
    split at po
    · rename_i n hn
      split at po
      · exact .inr ⟨_, n, rfl, hn, by assumption, po.ok rl (by simp only [RD])⟩
      · exact po.elim
    · exact po.elim
  · exact po.elim
def gTupleOf : VA := fun ds h => match ds with
  | [d] => match d with
    | .tup ds => .ok (.tup ds) h
    | _ => match asSqL d h with
      | some ds => .ok (.tup ds) h
      | none => .no
  | _ => .no
theorem g_tupleOf {K : PySem.W.Frag} {mg : Str → Option Value} : CallOk K mg gTupleOf (fun xs H Q => ∃ p ys, xs = [.ref p] ∧ ((SqL K H p ys ∧ ∀ l, H l = none → Q (.ref l) (upd H l (.tup ys))) ∨ (SqT K H p ys ∧ Q (.ref p) H))) := by
  intro m H h ds vs Q Wx rl rs po
  unfold gTupleOf at po
  split at po
  · obtain ⟨v, rfl, r⟩ := rs.one
    split at po
    · obtain ⟨a, xs, rfl, f, _⟩ := RD.tup_fz r
      exact ⟨a, xs, rfl, .inr ⟨f.sq, po.ok rl r⟩⟩
    · split at po
      · rename_i ds hd
        obtain ⟨a, xs, rfl, f, rs⟩ := asSqL_ok rl r hd
        exact ⟨a, xs, rfl, .inl ⟨f, fun l hl => po.newT rl hl rs⟩⟩
      · exact po.elim
  · exact po.elim
def gListOf : VA := fun ds h => match ds with
  | [d] => match asSq d h with
      | some ds => .ok (.ref h.length) (h ++ [.lst ds])
      | none => .no
  | _ => .no
theorem g_listOf {K : PySem.W.Frag} {mg : Str → Option Value} : CallOk K mg gListOf (fun xs H Q => ∃ p ys, xs = [.ref p] ∧ (SqL K H p ys ∨ SqT K H p ys) ∧ ∀ l, H l = none → Q (.ref l) (upd H l (.lst ys))) := by
  intro m H h ds vs Q Wx rl rs po
  unfold gListOf at po
  split at po
  · obtain ⟨v, rfl, r⟩ := rs.one
    split at po
    · rename_i ds hd
      obtain ⟨a, xs, rfl, f, rs⟩ := asSq_ok rl r hd
      exact ⟨a, xs, rfl, f, fun l hl => po.newR rl hl rs⟩
    · exact po.elim
  · exact po.elim
section
variable {X : Cx} {p pos : Pos} {e : Expr} {es : List Expr} {fa : SA}
theorem rb_len (hg : Gl X "len") (hm : X.mg "len" = none) (ha : RA X (e :: es) fa) (he : starEach (e :: es) X.env = (false, eval e X.env) :: starEach es X.env := by rfl) (hpl : (backTo pos (starEach es X.env)).any (·.1) = false := by rfl) :
    RE X (.Call (.Name "len" p) (e :: es) [] pos) (sCallB gLen fa) := re_callB (call_len.or call_lenD) g_len hg hm (by decide +kernel) ha (by decide) (by decide) he hpl
theorem rb_max (hc : X.calm = true) (hg : Gl X "max") (hm : X.mg "max" = none) (ha : RA X (e :: es) fa) (he : starEach (e :: es) X.env = (false, eval e X.env) :: starEach es X.env := by rfl) (hpl : (backTo pos (starEach es X.env)).any (·.1) = false := by rfl) :
    RE X (.Call (.Name "max" p) (e :: es) [] pos) (sCallB gMax fa) := re_callB ((call_max2 hc).or (cr_max hc)) g_max hg hm (by decide +kernel) ha (by decide) (by decide) he hpl
theorem rb_min (hc : X.calm = true) (hg : Gl X "min") (hm : X.mg "min" = none) (ha : RA X (e :: es) fa) (he : starEach (e :: es) X.env = (false, eval e X.env) :: starEach es X.env := by rfl) (hpl : (backTo pos (starEach es X.env)).any (·.1) = false := by rfl) :
    RE X (.Call (.Name "min" p) (e :: es) [] pos) (sCallB gMin fa) := re_callB ((call_min2 hc).or (cr_min hc)) g_min hg hm (by decide +kernel) ha (by decide) (by decide) he hpl
theorem rb_abs (hg : Gl X "abs") (hm : X.mg "abs" = none) (ha : RA X (e :: es) fa) (he : starEach (e :: es) X.env = (false, eval e X.env) :: starEach es X.env := by rfl) (hpl : (backTo pos (starEach es X.env)).any (·.1) = false := by rfl) :
    RE X (.Call (.Name "abs" p) (e :: es) [] pos) (sCallB gAbs fa) := re_callB call_abs g_abs hg hm (by decide +kernel) ha (by decide) (by decide) he hpl
theorem rb_sum (hc : X.calm = true) (hg : Gl X "sum") (hm : X.mg "sum" = none) (ha : RA X (e :: es) fa) (he : starEach (e :: es) X.env = (false, eval e X.env) :: starEach es X.env := by rfl) (hpl : (backTo pos (starEach es X.env)).any (·.1) = false := by rfl) :
    RE X (.Call (.Name "sum" p) (e :: es) [] pos) (sCallB gSum fa) := re_callB (cr_sum hc) g_sum hg hm (by decide +kernel) ha (by decide) (by decide) he hpl
theorem rb_all (hc : X.calm = true) (hg : Gl X "all") (hm : X.mg "all" = none) (ha : RA X (e :: es) fa) (he : starEach (e :: es) X.env = (false, eval e X.env) :: starEach es X.env := by rfl) (hpl : (backTo pos (starEach es X.env)).any (·.1) = false := by rfl) :
    RE X (.Call (.Name "all" p) (e :: es) [] pos) (sCallB gAll fa) := re_callB (cr_all hc) g_all hg hm (by decide +kernel) ha (by decide) (by decide) he hpl
theorem rb_any (hc : X.calm = true) (hg : Gl X "any") (hm : X.mg "any" = none) (ha : RA X (e :: es) fa) (he : starEach (e :: es) X.env = (false, eval e X.env) :: starEach es X.env := by rfl) (hpl : (backTo pos (starEach es X.env)).any (·.1) = false := by rfl) :
    RE X (.Call (.Name "any" p) (e :: es) [] pos) (sCallB gAny fa) := re_callB (cr_any hc) g_any hg hm (by decide +kernel) ha (by decide) (by decide) he hpl
theorem rb_str (hg : Gl X "str") (hm : X.mg "str" = none) (ha : RA X (e :: es) fa) (he : starEach (e :: es) X.env = (false, eval e X.env) :: starEach es X.env := by rfl) (hpl : (backTo pos (starEach es X.env)).any (·.1) = false := by rfl) :
    RE X (.Call (.Name "str" p) (e :: es) [] pos) (sCallB gStr fa) := re_callTy (call_str_int.or SkE.call_str_str) g_str hg hm (by decide +kernel) ha (by decide) (by decide) he hpl
theorem rb_int (hg : Gl X "int") (hm : X.mg "int" = none) (ha : RA X (e :: es) fa) (he : starEach (e :: es) X.env = (false, eval e X.env) :: starEach es X.env := by rfl) (hpl : (backTo pos (starEach es X.env)).any (·.1) = false := by rfl) :
    RE X (.Call (.Name "int" p) (e :: es) [] pos) (sCallB gInt fa) := re_callTy (call_int1.or call_int_str) g_int hg hm (by decide +kernel) ha (by decide) (by decide) he hpl
theorem rb_tuple (hg : Gl X "tuple") (hm : X.mg "tuple" = none) (ha : RA X (e :: es) fa) (he : starEach (e :: es) X.env = (false, eval e X.env) :: starEach es X.env := by rfl) (hpl : (backTo pos (starEach es X.env)).any (·.1) = false := by rfl) :
    RE X (.Call (.Name "tuple" p) (e :: es) [] pos) (sCallB gTupleOf fa) := re_callTy call_tuple_of g_tupleOf hg hm (by decide +kernel) ha (by decide) (by decide) he hpl
theorem rb_list (hg : Gl X "list") (hm : X.mg "list" = none) (ha : RA X (e :: es) fa) (he : starEach (e :: es) X.env = (false, eval e X.env) :: starEach es X.env := by rfl) (hpl : (backTo pos (starEach es X.env)).any (·.1) = false := by rfl) :
    RE X (.Call (.Name "list" p) (e :: es) [] pos) (sCallB gListOf fa) := re_callTy call_list_of g_listOf hg hm (by decide +kernel) ha (by decide) (by decide) he hpl
end
/-! ### tuple(range(..)), list(range(..)) -/
def okRg (a b : Int) : Prop := -(2 ^ 62) ≤ a ∧ a < 2 ^ 62 ∧ -(2 ^ 62) ≤ b ∧ b < 2 ^ 62 ∧ (b - a).toNat ≤ 2 ^ 24
instance (a b : Int) : Decidable (okRg a b) := by unfold okRg; infer_instance
theorem rgD_ok {K : PySem.W.Frag} {mg : Str → Option Value} {m : List Addr} {H : Hp} (a b : Int) : RDs K mg m H (rngD a b) (rgV a b) := by
  have e1 : rngD a b = ((List.range (b - a).toNat).map fun i : Nat => (a + (i : Nat) : Int)).map D.int := by simp [rngD, List.map_map, Function.comp_def]
  have e2 : rgV a b = ((List.range (b - a).toNat).map fun i : Nat => (a + (i : Nat) : Int)).map V.int := by simp [rgV, List.map_map, Function.comp_def]
  rw [e1, e2]
  exact RDs.of_ints _
def sTupRg1 (f : SE) : SE := fun ρ h => (f ρ h).bind fun d h1 => match d with
  | .int b => if okRg 0 b then .ok (.tup (rngD 0 b)) h1 else .no
  | _ => .no
def sLstRg1 (f : SE) : SE := fun ρ h => (f ρ h).bind fun d h1 => match d with
  | .int b => if okRg 0 b then .ok (.ref h1.length) (h1 ++ [.lst (rngD 0 b)]) else .no
  | _ => .no
section
variable {X : Cx} {p q pos pos2 : Pos} {a : Expr} {fa : SE}
theorem re_tupRg1 (hc : X.calm = true) (hg : Gl X "tuple") (hm : X.mg "tuple" = none) (hg2 : Gl X "range") (hm2 : X.mg "range" = none) (ha : RE X a fa) (na : starEach [a] X.env = (false, eval a X.env) :: starEach [] X.env := by rfl)
    (nb : starEach [.Call (.Name "range" q) [a] [] pos2] X.env = (false, eval (.Call (.Name "range" q) [a] [] pos2) X.env) :: starEach [] X.env := by rfl) : RE X (.Call (.Name "tuple" p) [.Call (.Name "range" q) [a] [] pos2] [] pos) (sTupRg1 fa) :=
  ⟨fun W tk => pe_imp (pe_tupRg hc hg hm (prg_1 hg2 hm2 (ha.run W tk) na) nb) fun σ H Q ⟨m, ρ, h, rl, en, p⟩ => ⟨m, ρ, h, rl, en, p.bind.mono (fun x H1 ⟨m1, d, h1, e1, r1, ra, p1⟩ => by
    split at p1
    · split at p1
      · simp only [RD] at ra; subst ra
        exact ⟨_, rfl, by assumption, fun q hq => p1.newT r1 hq (rgD_ok _ _)⟩
      · exact p1.elim
    · exact p1.elim) fun _ _ _ z => z⟩⟩
theorem re_lstRg1 (hc : X.calm = true) (hg : Gl X "list") (hm : X.mg "list" = none) (hg2 : Gl X "range") (hm2 : X.mg "range" = none) (ha : RE X a fa) (na : starEach [a] X.env = (false, eval a X.env) :: starEach [] X.env := by rfl)
    (nb : starEach [.Call (.Name "range" q) [a] [] pos2] X.env = (false, eval (.Call (.Name "range" q) [a] [] pos2) X.env) :: starEach [] X.env := by rfl) : RE X (.Call (.Name "list" p) [.Call (.Name "range" q) [a] [] pos2] [] pos) (sLstRg1 fa) :=
  ⟨fun W tk => pe_imp (pe_listRg hc hg hm (prg_1 hg2 hm2 (ha.run W tk) na) nb) fun σ H Q ⟨m, ρ, h, rl, en, p⟩ => ⟨m, ρ, h, rl, en, p.bind.mono (fun x H1 ⟨m1, d, h1, e1, r1, ra, p1⟩ => by
    split at p1
    · split at p1
      · simp only [RD] at ra; subst ra
        exact ⟨_, rfl, by assumption, fun q hq => p1.newR r1 hq (rgD_ok _ _)⟩
      · exact p1.elim
    · exact p1.elim) fun _ _ _ z => z⟩⟩
def sLstRg2 (f g : SE) : SE := fun ρ h => (f ρ h).bind fun d h1 => (g ρ h1).bind fun d2 h2 => match d, d2 with
  | .int a, .int b => if okRg a b then .ok (.lst (rngD a b)) h2 else .no
  | _, _ => .no
/-- list(range(a, b)), that nobody writes -/
theorem re_lstRg2 {b : Expr} {fb : SE} (hc : X.calm = true) (hg : Gl X "list") (hm : X.mg "list" = none) (hg2 : Gl X "range") (hm2 : X.mg "range" = none) (ha : RE X a fa) (hb : RE X b fb) (na : starEach [a, b] X.env = (false, eval a X.env) :: starEach [b] X.env := by rfl) (nb0 : starEach [b] X.env = (false, eval b X.env) :: starEach [] X.env := by rfl) (np : (backTo pos2 (starEach [b] X.env)).any (·.1) = false := by rfl)
    (nb : starEach [.Call (.Name "range" q) [a, b] [] pos2] X.env = (false, eval (.Call (.Name "range" q) [a, b] [] pos2) X.env) :: starEach [] X.env := by rfl) : RE X (.Call (.Name "list" p) [.Call (.Name "range" q) [a, b] [] pos2] [] pos) (sLstRg2 fa fb) :=
  ⟨fun W tk => pe_imp (pe_listRg hc hg hm (prg_2 hg2 hm2 (ha.run W tk) (hb.run W tk) na nb0 np) nb) fun σ H Q ⟨m, ρ, h, rl, en, p⟩ => ⟨m, ρ, h, rl, en, p.bind.mono (fun x H1 ⟨m1, d, h1, e1, r1, ra, p1⟩ => ⟨m1, ρ, h1, r1, en.ext e1, p1.bind.mono (fun y H2 ⟨m2, d2, h2, e2, r2, rb, p2⟩ => by
    split at p2
    · split at p2
      · have ra := RD.ext e2 _ _ ra
        simp only [RD] at ra rb; subst ra rb
        exact ⟨_, _, rfl, rfl, by assumption, fun q hq => p2.newL r2 hq (rgD_ok _ _)⟩
      · exact p2.elim
    · exact p2.elim) fun _ _ _ z => z⟩) fun _ _ _ z => z⟩⟩
/-- {} that nobody writes -/
theorem re_dct0 : RE X (.Dict [] [] pos) (sC (.dct [])) := ⟨fun W _ => pe_imp pe_dnewK fun σ H Q ⟨m, ρ, h, rl, en, p⟩ => by
  intro d hd
  refine p m _ _ (Ext.new hd) (rl.new hd) ?_
  simp only [RD, RDk]
  exact ⟨d, [], rfl, upd_same, fun z => rl.there z hd, rfl⟩⟩
end
end G

/-! G9: sorted texts, methods, isinstance, stores. -/
namespace G
open PySem PySem.Spec PyProof.Rows L2

/-! ### sorted(texts) -/
def leS (a b : Str) : Bool := !Spec.ltCps b.cps.toList a.cps.toList
def sortS (xs : List Str) : List Str := xs.mergeSort leS
theorem ltCps_irr : ∀ a : List Nat, Spec.ltCps a a = false
  | [] => rfl
  | x :: r => by simp [Spec.ltCps, ltCps_irr r]
theorem ltCps_asymm : ∀ a b : List Nat, Spec.ltCps a b = true → Spec.ltCps b a = false
  | [], [], h => by simp [Spec.ltCps] at h
  | [], _ :: _, _ => rfl
  | _ :: _, [], h => by simp [Spec.ltCps] at h
  | a :: r, b :: t, h => by
    simp only [Spec.ltCps, Bool.or_eq_true, Bool.and_eq_true, decide_eq_true_eq, beq_iff_eq, Bool.or_eq_false_iff, Bool.and_eq_false_iff, decide_eq_false_iff_not] at h ⊢
    rcases h with h | ⟨rfl, h⟩
    · exact ⟨by omega, .inl (by simp; omega)⟩
    · exact ⟨by omega, .inr (ltCps_asymm r t h)⟩
theorem ltCps_tri : ∀ a b : List Nat, Spec.ltCps a b = false → Spec.ltCps b a = false → a = b
  | [], [], _, _ => rfl
  | [], _ :: _, h, _ => by simp [Spec.ltCps] at h
  | _ :: _, [], _, h => by simp [Spec.ltCps] at h
  | a :: r, b :: t, h1, h2 => by
    simp only [Spec.ltCps, Bool.or_eq_false_iff, Bool.and_eq_false_iff, decide_eq_false_iff_not] at h1 h2
    have e : a = b := by omega
    subst e
    simp at h1 h2
    rw [ltCps_tri r t h1 h2]
theorem ltCps_trans : ∀ a b c : List Nat, Spec.ltCps b a = false → Spec.ltCps c b = false → Spec.ltCps c a = false
  | [], _, [], _, _ => by simp [Spec.ltCps]
  | [], _, _ :: _, _, _ => by simp [Spec.ltCps]
  | _ :: _, [], _, h, _ => by simp [Spec.ltCps] at h
  | _ :: _, _ :: _, [], _, h => by simp [Spec.ltCps] at h
  | a :: r, b :: t, c :: u, h1, h2 => by
    simp only [Spec.ltCps, Bool.or_eq_false_iff, Bool.and_eq_false_iff, decide_eq_false_iff_not] at h1 h2 ⊢
    refine ⟨by omega, ?_⟩
    by_cases e : c = a
    · have e2 : b = a := by omega
      subst e e2
      simp at h1 h2
      exact .inr (ltCps_trans r t u h1 h2)
    · exact .inl (by simpa using e)
theorem leS_trans (a b c : Str) (h1 : leS a b = true) (h2 : leS b c = true) : leS a c = true := by
  simp only [leS, Bool.not_eq_true'] at *
  exact ltCps_trans _ _ _ h1 h2
theorem leS_total (a b : Str) : (leS a b || leS b a) = true := by
  simp only [leS]
  cases h : Spec.ltCps b.cps.toList a.cps.toList with
  | false => simp
  | true => simp [ltCps_asymm _ _ h]
theorem leS_anti (a b : Str) (h1 : leS a b = true) (h2 : leS b a = true) : a = b := by
  simp only [leS, Bool.not_eq_true'] at *
  have := ltCps_tri _ _ h2 h1
  cases a; cases b
  simp only [Str.mk.injEq]
  exact Array.toList_inj.mp this
theorem sortedS_pw : ∀ (l : List Str), sortedS l = true → l.Pairwise fun a b => leS a b = true
  | [], _ => .nil
  | x :: r, h => by
    have key : ∀ (r : List Str) (x : Str), risingS x r = true → (∀ y ∈ r, leS x y = true) ∧ r.Pairwise fun a b => leS a b = true := by
      intro r
      induction r with
      | nil => intro x _; exact ⟨by simp, .nil⟩
      | cons z t ih =>
        intro x h
        simp only [risingS, Bool.and_eq_true] at h
        obtain ⟨i1, i2⟩ := ih z h.2
        have hz : leS x z = true := h.1
        refine ⟨fun y hy => ?_, List.pairwise_cons.mpr ⟨i1, i2⟩⟩
        rcases List.mem_cons.mp hy with rfl | hy
        · exact hz
        · exact leS_trans x z y hz (i1 y hy)
    obtain ⟨a, b⟩ := key r x h
    exact List.pairwise_cons.mpr ⟨a, b⟩
theorem sort_uniq {xs ys : List Str} (hp : ys.Perm xs) (hs : sortedS ys = true) : ys = sortS xs := by
  refine List.Perm.eq_of_pairwise (le := fun a b => leS a b = true) (fun a b _ _ h1 h2 => leS_anti a b h1 h2) (sortedS_pw ys hs) ?_ (hp.trans (List.mergeSort_perm xs leS).symm)
  exact List.pairwise_mergeSort (fun a b c h1 h2 => leS_trans a b c h1 h2) (fun a b => leS_total a b) xs
def gSorted : VA := fun ds h => match ds with
  | [d] => match asStrsL d h with
    | some xs => if xs.length < 64 then .ok (.lst ((sortS xs).map .str)) h else .no
    | none => .no
  | _ => .no
theorem g_sorted {K : PySem.W.Frag} {mg : Str → Option Value} : CallOk K mg gSorted (rSortedS K) := by
  intro m H h ds vs Q Wx rl rs po
  unfold gSorted at po
  split at po
  · obtain ⟨v, rfl, r⟩ := rs.one
    split at po
    · rename_i xs hx
      split at po
      · obtain ⟨a, rfl, f⟩ := asStrsL_ok rl r hx
        refine ⟨a, xs, rfl, f, by assumption, fun ys p hp hs hn => ?_⟩
        have e := sort_uniq hp hs
        subst e
        exact po.newL rl hn (RDs.of_strs _)
      · exact po.elim
    · exact po.elim
  · exact po.elim
/-! ### methods -/
/-- a method of a built-in type: the receiver, the arguments -/
abbrev VM := D → List D → Hs → R D
def MtOk (K : PySem.W.Frag) (mg : Str → Option Value) (g : VM) (r : V → List V → Hp → VK → Prop) : Prop := ∀ (m : List Addr) (H : Hp) (h : Hs) (d : D) (x : V) (ds : List D) (vs : List V) (Q : VK) (Wx : XK), Rel K mg m H h → RD K mg m H d x → RDs K mg m H ds vs → Po K mg (RD K mg) m H (g d ds h) Q Wx → r x vs H Q
def isTy (T : String) (d : D) (h : Hs) : Bool := match d with
  | .str _ => T == "str"
  | _ => T == "list" && (asSqL d h).isSome
theorem isTy_ok {K : PySem.W.Frag} {mg : Str → Option Value} {m : List Addr} {H : Hp} {h : Hs} {T : String} {d : D} {x : V} (rl : Rel K mg m H h) (r : RD K mg m H d x) (e : isTy T d h = true) : tyV K T x H := by
  unfold isTy at e
  split at e
  · simp only [RD] at r; subst r
    exact beq_iff_eq.mp e
  · rw [Bool.and_eq_true] at e
    obtain ⟨ds, hd⟩ := Option.isSome_iff_exists.mp e.2
    obtain ⟨a, xs, rfl, f, _⟩ := asSqL_ok rl r hd
    exact .inl ⟨beq_iff_eq.mp e.1, xs, f⟩
def sBM (T : String) (g : VM) (fo : SE) (fa : SA) : SE := fun ρ h => (fo ρ h).bind fun d h1 => if isTy T d h1 = true then (fa ρ h1).bind fun ds h2 => g d ds h2 else .no
section
variable {X : Cx} {o e : Expr} {es : List Expr} {fo : SE} {fa : SA} {name : Str} {apos cpos : Pos} {T id : String} {r : V → List V → Hp → VK → Prop} {g : VM}
theorem re_bm (pa : PlainAttrs T) (slot : Slot T name id) (hty : typeOf (.builtin id) = pure (.type "method_descriptor")) (hm : MtR X id r) (hg : MtOk X.K X.mg g r) (ho : RE X o fo) (ha : RA X (e :: es) fa)
    (hbase : attributeBase o name X.env (eval o X.env) = eval o X.env := by rfl)
    (hfew : ((backTo cpos (starEach (e :: es) X.env)).all (fun x => !x.1) && (backToKw cpos (keywordEach [] X.env)).all (fun x => x.1.isSome)
      && decide ((e :: es).length + ([] : List Keyword).length + (if ([] : List Keyword).isEmpty then 0 else 1) < 30)) = true := by rfl)
    (hline : (apos.endLine == cpos.line) = true := by rfl) (hs : starEach (e :: es) X.env = (false, eval e X.env) :: starEach es X.env := by rfl) (hplain : (backTo cpos (starEach es X.env)).any (·.1) = false := by rfl) :
    RE X (.Call (.Attribute o name apos) (e :: es) [] cpos) (sBM T g fo fa) :=
  ⟨fun W tk => pe_imp (pe_bm pa slot hty hm (ho.run W tk) (ha.run W tk) hbase hfew hline hs hplain) fun σ H Q ⟨m, ρ, h, rl, en, p⟩ => ⟨m, ρ, h, rl, en, p.bind.mono (fun x H1 ⟨m1, d, h1, e1, r1, ra, p1⟩ => by
    split at p1
    · rename_i ht
      exact ⟨isTy_ok r1 ra ht, m1, ρ, h1, r1, en.ext e1, p1.bind.mono (fun xs H2 ⟨m2, ds, h2, e2, r2, rb, p2⟩ => hg m2 H2 h2 d x ds xs Q _ r2 (RD.ext e2 _ _ ra) rb p2) fun _ _ _ z => z⟩
    · exact p1.elim) fun _ _ _ z => z⟩⟩
theorem re_bm0 (pa : PlainAttrs T) (slot : Slot T name id) (hty : typeOf (.builtin id) = pure (.type "method_descriptor")) (hm : MtR X id r) (hg : MtOk X.K X.mg g r) (ho : RE X o fo)
    (hbase : attributeBase o name X.env (eval o X.env) = eval o X.env := by rfl) (hline : (apos.endLine == cpos.line) = true := by rfl) : RE X (.Call (.Attribute o name apos) [] [] cpos) (sBM T g fo aNil) :=
  ⟨fun W tk => pe_imp (pe_bm0 pa slot hty hm (ho.run W tk) hbase hline) fun σ H Q ⟨m, ρ, h, rl, en, p⟩ => ⟨m, ρ, h, rl, en, p.bind.mono (fun x H1 ⟨m1, d, h1, e1, r1, ra, p1⟩ => by
    split at p1
    · rename_i ht
      exact ⟨isTy_ok r1 ra ht, hg m1 H1 h1 d x [] [] Q _ r1 ra (by simp only [RDs]) p1⟩
    · exact p1.elim) fun _ _ _ z => z⟩⟩
end
/-- a list that may be written: its number -/
def mutL (d : D) (h : Hs) : Option (Nat × List D) := match d with
  | .ref n => match h[n]? with
    | some (.lst ds) => some (n, ds)
    | _ => none
  | _ => none
theorem mutL_ok {K : PySem.W.Frag} {mg : Str → Option Value} {m : List Addr} {H : Hp} {h : Hs} {d : D} {v : V} {n : Nat} {ds : List D} (rl : Rel K mg m H h) (r : RD K mg m H d v) (e : mutL d h = some (n, ds)) : ∃ a xs, v = .ref a ∧ m[n]? = some a ∧ H a = some (.lst xs) ∧ RDs K mg m H ds xs := by
  unfold mutL at e
  split at e
  · split at e
    · rename_i hn
      cases e
      simp only [RD] at r
      obtain ⟨a, rfl, ha⟩ := r
      obtain ⟨xs, f, r⟩ := rl.ob _ _ _ hn ha
      exact ⟨a, xs, rfl, ha, f, r⟩
    · cases e
  · cases e
theorem Po.wrL {K : PySem.W.Frag} {mg : Str → Option Value} {m : List Addr} {H : Hp} {h : Hs} {n : Nat} {ds : List D} {xs : List V} {p : Addr} {d : D} {v : V} {Q : VK} {Wx : XK} (po : Po K mg (RD K mg) m H (.ok d (h.set n (.lst ds))) Q Wx) (rl : Rel K mg m H h) (hp : m[n]? = some p) (r : RDs K mg m H ds xs) (rd : RD K mg m H d v) :
    Q v (upd H p (.lst xs)) := by
  have e : Ext m H m (upd H p (.lst xs)) := Ext.write (List.mem_of_getElem? hp)
  exact po m _ _ e (rl.write (u := .lst ds) hp ⟨xs, upd_same, RDs.ext e _ _ r⟩) (RD.ext e _ _ rd)
def gAppend : VM := fun d es h => match es with
  | [y] => match mutL d h with
    | some (n, ds) => if ds.length < sizeLine then .ok .non (h.set n (.lst (ds ++ [y]))) else .no
    | none => .no
  | _ => .no
theorem g_append {K : PySem.W.Frag} {mg : Str → Option Value} : MtOk K mg gAppend rAppend := by
  intro m H h d x ds vs Q Wx rl r rs po
  unfold gAppend at po
  split at po
  · obtain ⟨v, rfl, ry⟩ := rs.one
    split at po
    · rename_i n ds hd
      split at po
      · obtain ⟨a, xs, rfl, ha, f, rx⟩ := mutL_ok rl r hd
        exact ⟨a, xs, v, rfl, rfl, f, by rw [← rx.len]; assumption, po.wrL rl ha (rx.append (by simp only [RDs]; exact ⟨v, [], rfl, ry, rfl⟩)) (by simp only [RD])⟩
      · exact po.elim
    · exact po.elim
  · exact po.elim
def gExtend : VM := fun d es h => match es with
  | [y] => match mutL d h, asLst y h with
    | some (n, ds), some zs => if ds.length + zs.length ≤ sizeLine then .ok .non (h.set n (.lst (ds ++ zs))) else .no
    | _, _ => .no
  | _ => .no
theorem g_extend {K : PySem.W.Frag} {mg : Str → Option Value} : MtOk K mg gExtend rExtend := by
  intro m H h d x ds vs Q Wx rl r rs po
  unfold gExtend at po
  split at po
  · obtain ⟨v, rfl, ry⟩ := rs.one
    split at po
    · rename_i n ds zs hd hz
      split at po
      · obtain ⟨a, xs, rfl, ha, f, rx⟩ := mutL_ok rl r hd
        obtain ⟨b, ys, rfl, g, ry⟩ := asLst_ok rl ry hz
        exact ⟨a, b, xs, ys, rfl, rfl, f, g, by rw [← rx.len, ← ry.len]; assumption, po.wrL rl ha (rx.append ry) (by simp only [RD])⟩
      · exact po.elim
    · exact po.elim
  · exact po.elim
def gJoin : VM := fun d es h => match d, es with
  | .str a, [y] => match asStrs y h with
    | some ys => if (ys.map (·.length)).sum + ys.length * a.length ≤ 16777216 then .ok (.str (Txt.join a ys)) h else .no
    | none => .no
  | _, _ => .no
theorem g_join {K : PySem.W.Frag} {mg : Str → Option Value} : MtOk K mg gJoin (fun x xs H Q => ∃ a p, ∃ ys : List Str, x = .str a ∧ xs = [.ref p] ∧ (SqL K H p (ys.map V.str) ∨ SqT K H p (ys.map V.str)) ∧
    (ys.map (·.length)).sum + ys.length * a.length ≤ 16777216 ∧ Q (.str (Txt.join a ys)) H) := by
  intro m H h d x ds vs Q Wx rl r rs po
  unfold gJoin at po
  split at po
  · obtain ⟨v, rfl, ry⟩ := rs.one
    simp only [RD] at r; subst r
    split at po
    · rename_i ys hy
      split at po
      · obtain ⟨p, rfl, f⟩ := asStrs_ok rl ry hy
        exact ⟨_, p, ys, rfl, rfl, f, by assumption, po.ok rl (by simp only [RD])⟩
      · exact po.elim
    · exact po.elim
  · exact po.elim
section
variable {X : Cx} {o e : Expr} {fo fe : SE} {fa : SA} {apos cpos p pos : Pos} {es : List Expr}
theorem rm_append (ho : RE X o fo) (ha : RA X [e] fa) (hbase : attributeBase o "append" X.env (eval o X.env) = eval o X.env := by rfl)
    (hfew : ((backTo cpos (starEach [e] X.env)).all (fun x => !x.1) && (backToKw cpos (keywordEach [] X.env)).all (fun x => x.1.isSome) && decide (([e] : List Expr).length + ([] : List Keyword).length + (if ([] : List Keyword).isEmpty then 0 else 1) < 30)) = true := by rfl)
    (hline : (apos.endLine == cpos.line) = true := by rfl) (hs : starEach [e] X.env = (false, eval e X.env) :: starEach [] X.env := by rfl) : RE X (.Call (.Attribute o "append" apos) [e] [] cpos) (sBM "list" gAppend fo fa) :=
  re_bm PySem.F.plainAttrs_list PySem.F.slot_list_append PySem.F.type_list_append mt_append g_append ho ha hbase hfew hline hs rfl
theorem rm_extend (ho : RE X o fo) (ha : RA X [e] fa) (hbase : attributeBase o "extend" X.env (eval o X.env) = eval o X.env := by rfl)
    (hfew : ((backTo cpos (starEach [e] X.env)).all (fun x => !x.1) && (backToKw cpos (keywordEach [] X.env)).all (fun x => x.1.isSome) && decide (([e] : List Expr).length + ([] : List Keyword).length + (if ([] : List Keyword).isEmpty then 0 else 1) < 30)) = true := by rfl)
    (hline : (apos.endLine == cpos.line) = true := by rfl) (hs : starEach [e] X.env = (false, eval e X.env) :: starEach [] X.env := by rfl) : RE X (.Call (.Attribute o "extend" apos) [e] [] cpos) (sBM "list" gExtend fo fa) :=
  re_bm PySem.F.plainAttrs_list PySem.F.slot_list_extend PySem.F.type_list_extend mt_extend g_extend ho ha hbase hfew hline hs rfl
theorem rm_join (ho : RE X o fo) (ha : RA X [e] fa) (hbase : attributeBase o "join" X.env (eval o X.env) = eval o X.env := by rfl)
    (hfew : ((backTo cpos (starEach [e] X.env)).all (fun x => !x.1) && (backToKw cpos (keywordEach [] X.env)).all (fun x => x.1.isSome) && decide (([e] : List Expr).length + ([] : List Keyword).length + (if ([] : List Keyword).isEmpty then 0 else 1) < 30)) = true := by rfl)
    (hline : (apos.endLine == cpos.line) = true := by rfl) (hs : starEach [e] X.env = (false, eval e X.env) :: starEach [] X.env := by rfl) : RE X (.Call (.Attribute o "join" apos) [e] [] cpos) (sBM "str" gJoin fo fa) :=
  re_bm PySem.F.plainAttrs_str PySem.F.slot_str_join PySem.F.type_str_join mt_join g_join ho ha hbase hfew hline hs rfl
theorem rb_sorted (hg : Gl X "sorted") (hm : X.mg "sorted" = none) (ha : RA X (e :: es) fa) (he : starEach (e :: es) X.env = (false, eval e X.env) :: starEach es X.env := by rfl) (hpl : (backTo pos (starEach es X.env)).any (·.1) = false := by rfl) :
    RE X (.Call (.Name "sorted" p) (e :: es) [] pos) (sCallB gSorted fa) := re_callB cr_sortedS g_sorted hg hm (by decide +kernel) ha (by decide) (by decide) he hpl
end
/-! ### isinstance -/
inductive Ty where
  | b (n : String) | o (c : Str)
  deriving DecidableEq
def tyD (d : D) (h : Hs) : Option Ty := match d with
  | .non => some (.b "NoneType") | .bl _ => some (.b "bool") | .int _ => some (.b "int") | .str _ => some (.b "str")
  | .tup _ => some (.b "tuple") | .lst _ => some (.b "list") | .scr _ => some (.b "list") | .dct _ => some (.b "dict") | .ins c _ => some (.o c)
  | .ref n => match h[n]? with
    | some (.lst _) => some (.b "list")
    | some (.dct _) => some (.b "dict")
    | some (.ins c _) => some (.o c)
    | none => none
  | .exn _ _ _ => none
def tyNames : List String := ["NoneType", "bool", "int", "str", "tuple", "list", "dict"]
def subT : Ty → Ty → Bool
  | .b x, .b y => x == y || (x == "bool" && y == "int")
  | .o c, .o c' => decide (c = c')
  | _, _ => false
/-- a type, as the machine has it -/
def TyV (mg : Str → Option Value) : Ty → Value → Prop
  | .b n, t => t = .type n
  | .o c, t => ∃ C, mg c = some (.ref C) ∧ t = .ref C
/-- what isinstance asks of the text's classes -/
structure InsF (K : PySem.W.Frag) (C : Addr) : Prop where
  cl : Cls K C
  ha : PySem.W.findIn K (.ref C) "__class__" = some (some (.builtin "object.__class__"))
  hn : PySem.W.specialIn K (.builtin "object.__class__") "__get__" = some (some (.builtin "getset_descriptor.__get__"))
  htk : PySem.W.takesIn K (.builtin "object.__class__") = some true
  hm : PySem.W.mroIn K C (.type "object") = some true
structure IsF (K : PySem.W.Frag) (mg : Str → Option Value) (cs : List Str) : Prop where
  ins : ∀ c ∈ cs, ∀ C, mg c = some (.ref C) → InsF K C
  own : ∀ c ∈ cs, ∀ c' ∈ cs, ∀ C C', mg c = some (.ref C) → mg c' = some (.ref C') → PySem.W.kitOne K (.ref C) (.ref C') = some (decide (c = c'))
  ob : ∀ c ∈ cs, ∀ C, mg c = some (.ref C) → ∀ n ∈ tyNames, PySem.W.kitOne K (.ref C) (.type n) = some false
  bo : ∀ c ∈ cs, ∀ C, mg c = some (.ref C) → ∀ n ∈ tyNames, PySem.W.kitOne K (.type n) (.ref C) = some false
def okTy (cs : List Str) : Ty → Bool
  | .b n => tyNames.contains n
  | .o c => decide (c ∈ cs)
theorem kit_bb : ∀ n ∈ tyNames, ∀ k ∈ tyNames, ∀ K, PySem.W.kitOne K (.type n) (.type k) = some (subT (.b n) (.b k)) := by
  have h : (tyNames.all fun n => tyNames.all fun k => kitB n k == some (subT (.b n) (.b k))) = true := by decide +kernel
  intro n hn k hk K
  exact kit_ty (beq_iff_eq.mp (List.all_eq_true.mp (List.all_eq_true.mp h n hn) k hk))
theorem kit_sub {K : PySem.W.Frag} {mg : Str → Option Value} {cs : List Str} (F : IsF K mg cs) {s t : Ty} {u v : Value} (hs : okTy cs s = true) (ht : okTy cs t = true) (us : TyV mg s u) (vt : TyV mg t v) : PySem.W.kitOne K u v = some (subT s t) := by
  cases s with
  | b n =>
    have hn : n ∈ tyNames := by simpa [okTy] using hs
    cases (show u = .type n from us)
    cases t with
    | b k =>
      have hk : k ∈ tyNames := by simpa [okTy] using ht
      cases (show v = .type k from vt)
      exact kit_bb n hn k hk K
    | o c =>
      obtain ⟨C, hC, rfl⟩ := vt
      exact F.bo c (by simpa [okTy] using ht) C hC n hn
  | o c =>
    obtain ⟨C, hC, rfl⟩ := us
    cases t with
    | b k =>
      have hk : k ∈ tyNames := by simpa [okTy] using ht
      cases (show v = .type k from vt)
      exact F.ob c (by simpa [okTy] using hs) C hC k hk
    | o c' =>
      obtain ⟨C', hC', rfl⟩ := vt
      exact F.own c (by simpa [okTy] using hs) c' (by simpa [okTy] using ht) C C' hC hC'
theorem tyD_ok {K : PySem.W.Frag} {mg : Str → Option Value} {cs : List Str} {m : List Addr} {H : Hp} {h : Hs} {d : D} {x : V} {t : Ty} (F : IsF K mg cs) (rl : Rel K mg m H h) (r : RD K mg m H d x) (e : tyD d h = some t) (ok : okTy cs t = true) : ∃ u, TyV mg t u ∧ TyX K H x u := by
  have insC : ∀ {a C dx : Addr} {fs : List (Str × V)} {c : Str}, c ∈ cs → mg c = some (.ref C) → H a = some (.ins C dx fs) → TyX K H (.ref a) (.ref C) := fun {a C dx fs c} hc hC ha => by
    have z := F.ins c hc C hC
    exact .base (.ins ha z.cl z.ha z.hn z.htk z.hm)
  cases d with
  | non => cases e; simp only [RD] at r; subst r; exact ⟨_, rfl, .base .non⟩
  | bl b => cases e; simp only [RD] at r; subst r; exact ⟨_, rfl, .base (.bl b)⟩
  | int b => cases e; simp only [RD] at r; subst r; exact ⟨_, rfl, .base (.int b)⟩
  | str b => cases e; simp only [RD] at r; subst r; exact ⟨_, rfl, .base (.str b)⟩
  | tup ds =>
    cases e
    obtain ⟨a, xs, rfl, f, _⟩ := RD.tup_fz r
    rcases f with ⟨f | ⟨o, f⟩, _⟩ | ⟨o, its, n, hk, hc, _⟩
    · exact ⟨_, rfl, .base (.tup f)⟩
    · exact ⟨_, rfl, .fTuple f⟩
    · exact ⟨_, rfl, .kTuple hk hc⟩
  | lst ds =>
    cases e
    simp only [RD] at r
    obtain ⟨a, xs, rfl, f, _⟩ := r
    exact ⟨_, rfl, .base (.lst f)⟩
  | scr ds =>
    cases e
    simp only [RD] at r
    obtain ⟨a, xs, rfl, f, _⟩ := r
    rcases f with ⟨f | ⟨o, f⟩, _⟩ | ⟨o, its, n, hk, hc, _⟩
    · exact ⟨_, rfl, .base (.lst f)⟩
    · exact ⟨_, rfl, .base (.frz f)⟩
    · exact ⟨_, rfl, .kList hk hc⟩
  | dct ds =>
    cases e
    simp only [RD] at r
    obtain ⟨a, xs, rfl, f, _⟩ := r
    exact ⟨_, rfl, .base (.dK f)⟩
  | ins c fs =>
    cases e
    simp only [RD] at r
    obtain ⟨a, C, dx, xs, rfl, g, f, _⟩ := r
    exact ⟨.ref C, ⟨C, g, rfl⟩, insC (by simpa [okTy] using ok) g f⟩
  | exn x c fs => cases e
  | ref n =>
    simp only [tyD] at e
    simp only [RD] at r
    obtain ⟨a, rfl, ha⟩ := r
    split at e
    · rename_i ds hn
      cases e
      obtain ⟨xs, f, _⟩ := rl.ob _ _ _ hn ha
      exact ⟨_, rfl, .base (.lst f)⟩
    · rename_i ds hn
      cases e
      obtain ⟨xs, f, _⟩ := rl.ob _ _ _ hn ha
      exact ⟨_, rfl, .base (.dK f)⟩
    · rename_i c ds hn
      cases e
      obtain ⟨C, dx, xs, g, f, _⟩ := rl.ob _ _ _ hn ha
      exact ⟨.ref C, ⟨C, g, rfl⟩, insC (by simpa [okTy] using ok) g f⟩
    · cases e
def sIsi (cs : List Str) (ts : List Ty) (f : SE) : SE := fun ρ h => (f ρ h).bind fun d h1 => match tyD d h1 with
  | some t => if okTy cs t = true then .ok (.bl (ts.any (subT t))) h1 else .no
  | none => .no
/-- a class as an argument -/
structure PCl (X : Cx) (cs : List Str) (e : Expr) (t : Ty) : Prop where
  ok : okTy cs t = true
  run : ∃ v u, PE X e (tC v) ∧ ClsV v u ∧ TyV X.mg t u
theorem pcl_b {X : Cx} {cs : List Str} {x : Str} {n : String} {pos : Pos} (hg : Gl X x) (hm : X.mg x = none) (hv : bootBuiltins x = some (.type n)) (ok : tyNames.contains n = true) (hn : x ≠ "__name__" := by decide) (hd : (x == ("__debug__" : Str)) = false := by decide) : PCl X cs (.Name x pos) (.b n) :=
  ⟨ok, .ty n, .type n, pe_bltn hg hm hv rfl hn hd, .ty n, rfl⟩
theorem pcl_o {X : Cx} {cs : List Str} {x : Str} {pos : Pos} (hg : Gl X x) (hm : ∃ C, X.mg x = some (.ref C)) (ok : x ∈ cs) (hd : (x == ("__debug__" : Str)) = false := by decide) : PCl X cs (.Name x pos) (.o x) := by
  obtain ⟨C, hC⟩ := hm
  exact ⟨by simpa [okTy] using ok, .ref C, .ref C, pe_glob hg hC rfl hd, .own C, C, hC, rfl⟩
section
variable {X : Cx} {cs : List Str} {e c c2 : Expr} {fe : SE} {t t2 : Ty} {p pos pos2 : Pos} {k2 : Nat}
theorem re_isi (F : IsF X.K X.mg cs) (hg : Gl X "isinstance") (hm : X.mg "isinstance" = none) (he : RE X e fe) (hc : PCl X cs c t) (h1 : starEach [e, c] X.env = (false, eval e X.env) :: starEach [c] X.env := by rfl)
    (h2 : starEach [c] X.env = (false, eval c X.env) :: starEach [] X.env := by rfl) (h3 : (backTo pos (starEach [c] X.env)).any (·.1) = false := by rfl) : RE X (.Call (.Name "isinstance" p) [e, c] [] pos) (sIsi cs [t] fe) := by
  obtain ⟨ok, v, u, hp, hv, hu⟩ := hc
  exact ⟨fun W tk => pe_imp (pe_callB call_isi hg hm boot_isinstance (pa_cons (he.run W tk) (pa_cons hp pa_nil h2) h1) (by decide) (by decide) h1 h3) fun σ H Q ⟨m, ρ, h, rl, en, p⟩ => ⟨m, ρ, h, rl, en, p.bind.mono (fun x H1 ⟨m1, d, h1, e1, r1, ra, p1⟩ => by
    split at p1
    · rename_i s hs
      split at p1
      · rename_i hk
        obtain ⟨su, h1, h2⟩ := tyD_ok F r1 ra hs hk
        exact ⟨x, v, su, u, _, rfl, hv, h2, kit_sub F hk ok h1 hu, p1.ok r1 (by simp [RD])⟩
      · exact p1.elim
    · exact p1.elim) fun _ _ _ z => z⟩⟩
theorem re_isi2 (F : IsF X.K X.mg cs) (hg : Gl X "isinstance") (hm : X.mg "isinstance" = none) (he : RE X e fe) (hc : PCl X cs c t) (hc2 : PCl X cs c2 t2) (h1 : starEach [e, .Tuple [c, c2] k2 pos2] X.env = (false, eval e X.env) :: starEach [.Tuple [c, c2] k2 pos2] X.env := by rfl)
    (h2 : starEach [.Tuple [c, c2] k2 pos2] X.env = (false, eval (.Tuple [c, c2] k2 pos2) X.env) :: starEach [] X.env := by rfl) (h3 : (backTo pos (starEach [.Tuple [c, c2] k2 pos2] X.env)).any (·.1) = false := by rfl)
    (h4 : starEach [c, c2] X.env = (false, eval c X.env) :: starEach [c2] X.env := by rfl) (h5 : starEach [c2] X.env = (false, eval c2 X.env) :: starEach [] X.env := by rfl) : RE X (.Call (.Name "isinstance" p) [e, .Tuple [c, c2] k2 pos2] [] pos) (sIsi cs [t, t2] fe) := by
  obtain ⟨ok, v, u, hp, hv, hu⟩ := hc
  obtain ⟨ok2, v2, u2, hp2, hv2, hu2⟩ := hc2
  exact ⟨fun W tk => pe_imp (pe_callB call_isiT hg hm boot_isinstance (pa_cons (he.run W tk) (pa_cons (pe_tup (pa_cons hp (pa_cons hp2 pa_nil h5) h4)) pa_nil h2) h1) (by decide) (by decide) h1 h3) fun σ H Q ⟨m, ρ, h, rl, en, p⟩ => ⟨m, ρ, h, rl, en, p.bind.mono (fun x H1 ⟨m1, d, h1, e1, r1, ra, p1⟩ => by
    split at p1
    · rename_i s hs
      split at p1
      · rename_i hk
        refine ⟨by show 2 ≤ sizeLine; rw [sizeLine_eq]; decide, fun q hq => ?_⟩
        have ex : Ext m1 H1 m1 (upd H1 q (.tup [v, v2])) := Ext.new hq
        obtain ⟨su, h1, h2⟩ := tyD_ok F (r1.new (o := .tup [v, v2]) hq) (RD.ext ex _ _ ra) hs hk
        have e1 := kit_sub F hk ok h1 hu
        have e2 := kit_sub F hk ok2 h1 hu2
        refine ⟨x, q, [v, v2], su, [u, u2], (subT s t || subT s t2), rfl, upd_same, .cons hv (.cons hv2 .nil), h2, ?_, ?_⟩
        · simp only [PySem.W.kitAny, e1, e2]
          cases subT s t <;> cases subT s t2 <;> rfl
        · exact p1 m1 _ _ ex (r1.new hq) (by simp [RD])
      · exact p1.elim
    · exact p1.elim) fun _ _ _ z => z⟩⟩
end
/-! ### xs[i] = v, d[k] = v, o.f = v -/
def putL (o i v : D) (h : Hs) : Option Hs := match mutL o h, i with
  | some (n, ds), .int k => (ixN ds.length k).map fun j => h.set n (.lst (ds.set j v))
  | _, _ => none
def mutD (d : D) (h : Hs) : Option (Nat × List (Key × D)) := match d with
  | .ref n => match h[n]? with
    | some (.dct ds) => some (n, ds)
    | _ => none
  | _ => none
def putDc (o i v : D) (h : Hs) : Option Hs := match mutD o h, keyD i with
  | some (n, kvs), some k => if kvs.length < sizeLine then some (h.set n (.dct (putD kvs k v))) else none
  | _, _ => none
def mutI (d : D) (h : Hs) : Option (Nat × Str × List (Str × D)) := match d with
  | .ref n => match h[n]? with
    | some (.ins c fs) => some (n, c, fs)
    | _ => none
  | _ => none
def sPut (g : D → D → D → Hs → Option Hs) (fv fo fi : SE) : SS := fun ρ h => (fv ρ h).toS ρ fun v h1 => (fo ρ h1).toS ρ fun o h2 => (fi ρ h2).toS ρ fun i h3 => match g o i v h3 with
  | some h4 => .nx ρ h4
  | none => .no
def sFldSet (cs : List Str) (f : Str) (fv fo : SE) : SS := fun ρ h => (fv ρ h).toS ρ fun v h1 => (fo ρ h1).toS ρ fun o h2 => match mutI o h2 with
  | some (n, c, fs) => if c ∈ cs ∧ fs.length < 900 then .nx ρ (h2.set n (.ins c (putFD f v fs))) else .no
  | none => .no
theorem mutD_ok {K : PySem.W.Frag} {mg : Str → Option Value} {m : List Addr} {H : Hp} {h : Hs} {d : D} {v : V} {n : Nat} {ds : List (Key × D)} (rl : Rel K mg m H h) (r : RD K mg m H d v) (e : mutD d h = some (n, ds)) : ∃ a xs, v = .ref a ∧ m[n]? = some a ∧ H a = some (.dK xs) ∧ RDk K mg m H ds xs := by
  unfold mutD at e
  split at e
  · split at e
    · rename_i hn
      cases e
      simp only [RD] at r
      obtain ⟨a, rfl, ha⟩ := r
      obtain ⟨xs, f, r⟩ := rl.ob _ _ _ hn ha
      exact ⟨a, xs, rfl, ha, f, r⟩
    · cases e
  · cases e
theorem mutI_ok {K : PySem.W.Frag} {mg : Str → Option Value} {m : List Addr} {H : Hp} {h : Hs} {d : D} {v : V} {n : Nat} {c : Str} {fs : List (Str × D)} (rl : Rel K mg m H h) (r : RD K mg m H d v) (e : mutI d h = some (n, c, fs)) :
    ∃ a C dx ys, v = .ref a ∧ m[n]? = some a ∧ mg c = some (.ref C) ∧ H a = some (.ins C dx ys) ∧ RDf K mg m H fs ys := by
  unfold mutI at e
  split at e
  · split at e
    · rename_i hn
      cases e
      simp only [RD] at r
      obtain ⟨a, rfl, ha⟩ := r
      obtain ⟨C, dx, xs, g, f, r⟩ := rl.ob _ _ _ hn ha
      exact ⟨a, C, dx, xs, rfl, ha, g, f, r⟩
    · cases e
  · cases e
theorem RDf.len {K : PySem.W.Frag} {mg : Str → Option Value} {m : List Addr} {H : Hp} : ∀ {ds : List (Str × D)} {xs : List (Str × V)}, RDf K mg m H ds xs → ds.length = xs.length
  | [], xs, r => by simp only [RDf] at r; subst r; rfl
  | (k, d) :: ds, xs, r => by
    simp only [RDf] at r
    obtain ⟨v, vr, rfl, _, r2⟩ := r
    simp [RDf.len r2]
theorem putFD_ok {K : PySem.W.Frag} {mg : Str → Option Value} {m : List Addr} {H : Hp} {f : Str} {d : D} {v : V} (r0 : RD K mg m H d v) : ∀ {ds : List (Str × D)} {xs : List (Str × V)}, RDf K mg m H ds xs → RDf K mg m H (putFD f d ds) (putF f v xs)
  | [], xs, r => by simp only [RDf] at r; subst r; simp only [putFD, putF, RDf]; exact ⟨v, [], rfl, r0, rfl⟩
  | (k, d') :: ds, xs, r => by
    simp only [RDf] at r
    obtain ⟨u, vr, rfl, r1, r2⟩ := r
    simp only [putFD, putF]
    by_cases e : k = f
    · rw [if_pos e, if_pos e]; simp only [RDf]; exact ⟨v, vr, rfl, r0, r2⟩
    · rw [if_neg e, if_neg e]; simp only [RDf]; exact ⟨u, _, rfl, r1, putFD_ok r0 r2⟩
section
variable {X : Cx} {o i e : Expr} {fo fi fe : SE} {pos pos' : Pos} {k : Nat} {f : Str} {cs : List Str}
/-- the three parts, then what is done with the values -/
theorem three {K : PySem.W.Frag} {mg : Str → Option Value} {W : WX} {D : Ends} {σ : Sl} {H : Hp} {m : List Addr} {ρ : Ev} {h : Hs} (rl : Rel K mg m H h) (en : REnv K mg m H ρ σ) {kk : G.D → G.D → G.D → Hs → RS} {T : V → V → V → Hp → Prop}
    (p : PoS K mg m H ((fe ρ h).toS ρ fun v h1 => (fo ρ h1).toS ρ fun o h2 => (fi ρ h2).toS ρ fun i h3 => kk o i v h3) D W)
    (hT : ∀ (m3 : List Addr) (H3 : Hp) (h3 : Hs) (o i v : G.D) (x y z : V), Rel K mg m3 H3 h3 → REnv K mg m3 H3 ρ σ → RD K mg m3 H3 o x → RD K mg m3 H3 i y → RD K mg m3 H3 v z → PoS K mg m3 H3 (kk o i v h3) D W → T x y z H3) :
    LE K mg W fe σ H fun z H1 => LE K mg W fo σ H1 fun x H2 => LE K mg W fi σ H2 fun y H3 => T x y z H3 :=
  ⟨m, ρ, h, rl, en, (p.toS en).mono (fun z H1 ⟨m1, v, h1, e1, r1, rv, p1⟩ => ⟨m1, ρ, h1, r1, en.ext e1, (p1.toS (en.ext e1)).mono (fun x H2 ⟨m2, o', h2, e2, r2, ro, p2⟩ =>
    ⟨m2, ρ, h2, r2, (en.ext e1).ext e2, (p2.toS ((en.ext e1).ext e2)).mono (fun y H3 ⟨m3, i', h3, e3, r3, ri, p3⟩ =>
      hT m3 H3 h3 o' i' v x y z r3 (((en.ext e1).ext e2).ext e3) (RD.ext e3 _ _ ro) ri (RD.ext e3 _ _ (RD.ext e2 _ _ rv)) p3) fun _ _ _ z => z⟩) fun _ _ _ z => z⟩) fun _ _ _ z => z⟩
theorem rs_setIx (he : RE X e fe) (ho : RE X o fo) (hi : RE X i fi) (ha : ∀ v, assign (.Subscript o i pos') X.env v = (do
      let ov ← holding [v] (eval o X.env)
      let iv ← holding [v, ov] (eval i X.env)
      standAt pos'
      holding [v, ov, iv] (setItem ov iv v)
      release [v, ov, iv] []) := by intro _; rfl) (hs : swapsWithSole [.Subscript o i pos'] e pos.line X.env = pure false := by rfl) (hw : swappedStores [.Subscript o i pos'] e X.env = pure none := by rfl)
    (h1 : (assignEach [.Subscript o i pos'] X.env).map (·.2) = [assign (.Subscript o i pos') X.env] := by rfl) : RSt X (.Assign [.Subscript o i pos'] e pos) (sPut putL fe fo fi) :=
  ⟨fun W tk => ps_imp (ps_asg (he.run W tk) (pg_sub (ho.run W tk) (hi.run W tk) set_list ha) hs hw h1) fun D σ H ⟨m, ρ, h, rl, en, p⟩ => three (T := fun x y z H3 => rSetL x y z H3 fun H4 => D.nx σ H4) rl en p fun m3 H3 h3 o i v x y z r3 en3 ro ri rv p3 => by
    split at p3
    · rename_i h4 hp
      unfold putL at hp
      split at hp
      · rename_i n ds kk hm
        obtain ⟨j, hj, rfl⟩ := Option.map_eq_some_iff.mp hp
        obtain ⟨a, xs, rfl, ha, fH, rx⟩ := mutL_ok r3 ro hm
        simp only [RD] at ri; subst ri
        have ew : Ext m3 H3 m3 (upd H3 a (.lst (xs.set j z))) := Ext.write (List.mem_of_getElem? ha)
        exact ⟨a, xs, kk, j, rfl, rfl, fH, by rw [← rx.len]; exact hj, (p3.ext ew).nx (r3.write (u := .lst _) ha ⟨_, upd_same, RDs.ext ew _ _ (rx.set j rv)⟩) (en3.ext ew)⟩
      · cases hp
    · exact p3.elim⟩
theorem rs_setDc (hr : Rm X.A) (he : RE X e fe) (ho : RE X o fo) (hi : RE X i fi) (hs : swapsWith e (some (.Subscript o i pos')) pos.line X.env = pure false := by rfl) : RSt X (.Assign [.Subscript o i pos'] e pos) (sPut putDc fe fo fi) :=
  ⟨fun W tk => ps_imp (ps_dput (hr.hu) (ho.run W tk) (hi.run W tk) (he.run W tk) hs) fun D σ H ⟨m, ρ, h, rl, en, p⟩ => three (T := fun x y z H3 => ∃ a H4, x = .ref a ∧ DPut H3 a y z H4 ∧ D.nx σ H4) rl en p fun m3 H3 h3 o i v x y z r3 en3 ro ri rv p3 => by
    split at p3
    · rename_i h4 hp
      unfold putDc at hp
      split at hp
      · rename_i n ds kk hm hk
        split at hp
        · rename_i hz
          cases hp
          obtain ⟨a, xs, rfl, ha, fH, rx⟩ := mutD_ok r3 ro hm
          rw [keyD_ok ri hk]
          have ew : Ext m3 H3 m3 (upd H3 a (.dK (putK xs kk z))) := Ext.write (List.mem_of_getElem? ha)
          exact ⟨a, _, rfl, DPut.k fH (by rw [← rx.len]; exact hz), (p3.ext ew).nx (r3.write (u := .dct _) ha ⟨_, upd_same, RDk.ext ew _ _ (putD_ok rx rv)⟩) (en3.ext ew)⟩
        · cases hp
      · cases hp
    · exact p3.elim⟩
theorem rs_fld (hf : FldOk X.K X.mg cs f) (he : RE X e fe) (ho : RE X o fo) (hs : swapsWith e (some (.Attribute o f pos')) pos.line X.env = pure false := by rfl) : RSt X (.Assign [.Attribute o f pos'] e pos) (sFldSet cs f fe fo) :=
  ⟨fun W tk => ps_imp (ps_fld (ho.run W tk) (he.run W tk) hs) fun D σ H ⟨m, ρ, h, rl, en, p⟩ =>
    ⟨m, ρ, h, rl, en, (p.toS en).mono (fun z H1 ⟨m1, v, h1, e1, r1, rv, p1⟩ => ⟨m1, ρ, h1, r1, en.ext e1, (p1.toS (en.ext e1)).mono (fun x H2 ⟨m2, o', h2, e2, r2, ro, p2⟩ => by
      have rv := RD.ext e2 _ _ rv
      have en2 := (en.ext e1).ext e2
      split at p2
      · rename_i n c fs hm
        split at p2
        · rename_i hc
          obtain ⟨a, C, dx, ys, rfl, ha, g, fH, rf⟩ := mutI_ok r2 ro hm
          obtain ⟨k1, k2⟩ := hf c hc.1 C g
          have ew : Ext m2 H2 m2 (upd H2 a (.ins C dx (putF f z ys))) := Ext.write (List.mem_of_getElem? ha)
          exact ⟨a, C, dx, ys, rfl, fH, k1, k2, by have := rf.len; omega, (p2.ext ew).nx (r2.write (u := .ins _ _) ha ⟨C, dx, _, g, upd_same, RDf.ext ew _ _ (putFD_ok rv rf)⟩) (en2.ext ew)⟩
        · exact p2.elim
      · exact p2.elim) fun _ _ _ z => z⟩) fun _ _ _ z => z⟩⟩
end
end G

/-! G10: defs and their calls. -/
namespace G
open PySem PySem.Spec PyProof.Rows L2

/-- a def's promise: it does what f says -/
def SpL (K : PySem.W.Frag) (mg : Str → Option Value) (n : Nat) (f : Fs) : Sp := fun vs H Q E => ∃ m ds h, ds.length = n ∧ Rel K mg m H h ∧ RDs K mg m H ds vs ∧ Po K mg (RD K mg) m H (f ds h) Q E
def startE (N : Nat) (ds : List D) : Ev := ds.map some ++ List.replicate (N - ds.length) none
/-- a body, from its arguments -/
def runB (N : Nat) (f : SS) : Fs := fun ds h => match f (startE N ds) h with
  | .nx _ h' => .ok .non h'
  | .rt d h' => .ok d h'
  | .er e _ h' => .er e h'
  | .bk _ _ => .no
  | .ct _ _ => .no
  | .no => .no
theorem start_env {K : PySem.W.Frag} {mg : Str → Option Value} {m : List Addr} {H : Hp} {N : List Str} {ds : List D} {vs : List V} (r : RDs K mg m H ds vs) : REnv K mg m H (startE N.length ds) (L2.start N vs) := by
  have hl := r.len
  refine ⟨by unfold startE L2.start; simp [hl], fun i d hd => ?_⟩
  unfold startE at hd
  unfold L2.start
  by_cases h : i < ds.length
  · rw [List.getElem?_append_left (by simpa using h)] at hd
    rw [List.getElem?_append_left (by rw [List.length_map, ← hl]; exact h)]
    simp only [List.getElem?_map, Option.map_eq_some_iff] at hd
    obtain ⟨d', hd', e⟩ := hd
    cases e
    obtain ⟨v, hv, rv⟩ := r.get hd'
    exact ⟨v, by simp [hv], rv⟩
  · rw [List.getElem?_append_right (by simpa using h), List.getElem?_replicate] at hd
    split at hd <;> cases hd
section
variable {P : Program} {w : World} {K : PySem.W.Frag} {mg : Str → Option Value} {base : Heap} {x qual : Str} {params : Arguments} {body : List Stmt} {scope : Scope} {dvs : List V} {kws : List (Str × V)} {f : Addr} {fd : FuncData} {N ps : List Str} {k : Nat} {fb : SS}
abbrev cxF (P : Program) (w : World) (K : PySem.W.Frag) (mg : Str → Option Value) (base : Heap) (N : List Str) (qual : Str) (scope : Scope) (f : Addr) (cdv : Value) (A : Around) (outer : List Env) (s : Shared) (H : Hp) (E : XK) : Cx := cxOf (L2.CX P w) P w K mg base N qual scope f cdv A outer s H E
/-- room; and, where gb holds, nothing is being shown (no repr under way) -/
structure RoomB (gb : Prop) (k : Nat) (A : Around) : Prop where
  room : Room k A
  gd : gb → A.guards = some []
abbrev RoomG (k : Nat) (A : Around) : Prop := RoomB True k A
section
variable {gb : Prop}
theorem RoomB.rm {k : Nat} {A : Around} (r : RoomB gb k A) : Rm A := ⟨by have := r.room.un; omega⟩
/-- .. and nothing is being shown -/
structure RmG (A : Around) : Prop where
  un : A.units + 200 < cLine
  gd : A.guards = some []
theorem RoomB.rg {k : Nat} {A : Around} (r : RoomB True k A) : RmG A := ⟨r.rm.un, r.gd trivial⟩
theorem RoomB.mono {j k : Nat} {A : Around} (r : RoomB gb k A) (h : j ≤ k) : RoomB gb j A := ⟨r.room.mono h, r.gd⟩
theorem RoomB.deep {k : Nat} {A : Around} (r : RoomB gb (k + 1) A) (env : Env) : RoomB gb k (A.deeper env) := ⟨r.room.deeper env, r.gd⟩
theorem RoomB.in1 {k : Nat} {A : Around} (r : RoomB gb (k + 1) A) : RoomB gb k A.in1 := ⟨r.room.in1, r.gd⟩
theorem RoomB.off {k : Nat} {A : Around} (r : RoomB gb k A) : RoomB False k A := ⟨r.room, fun z => z.elim⟩
theorem RoomB.make {k : Nat} {A : Around} (r : RoomB gb (k + 1) A) (C : Addr) (us : List Value) (kw : List (Str × Value)) : RoomB gb k (A.under (.builtin "type.__call__" ⟨.ref C :: us, kw⟩)) :=
  ⟨r.room.make C us kw, fun z => by simp [Around.under, Code.guards, Code.isGuard, guardIds, pushGuards, r.gd z]⟩
end
/-- a def that does what sp says, where (if gb) no repr is under way -/
structure FnB (gb : Prop) (P : Program) (w : World) (K : PySem.W.Frag) (mg : Str → Option Value) (base : Heap) (k : Nat) (f : Addr) (fd : FuncData) (ps : List Str) (fs : Fs) : Prop where
  run : ∀ (A : Around) (outer : List Env) (s : Shared) (H : Hp) (args : Args) (us : List Value) (vs : List V) (Q : VK) (E : XK), RoomB gb k A → Env0 P w K mg base A outer s H → BindsTo s fd args (ps.zip us) → Vals vs us → SpL K mg ps.length fs vs H Q E →
    codeAny (model P w) A (.call (.ref f) args) (CR (L2.CX P w) outer P w H s Q E) s
abbrev FnG (P : Program) (w : World) (K : PySem.W.Frag) (mg : Str → Option Value) (base : Heap) (k : Nat) (f : Addr) (fd : FuncData) (ps : List Str) (fs : Fs) : Prop := FnB True P w K mg base k f fd ps fs
theorem FnB.mono {gb : Prop} {j : Nat} {fs : Fs} (F : FnB gb P w K mg base j f fd ps fs) (h : j ≤ k) : FnB gb P w K mg base k f fd ps fs := ⟨fun A outer s H args us vs Q E r => F.run A outer s H args us vs Q E (r.mono h)⟩
theorem FnB.weak {gb : Prop} {fs : Fs} (F : FnB False P w K mg base k f fd ps fs) : FnB gb P w K mg base k f fd ps fs := ⟨fun A outer s H args us vs Q E r => F.run A outer s H args us vs Q E r.off⟩
/-- a body's reading, from the values of the parameters -/
theorem body_ok {cdv : Value} {A : Around} {outer : List Env} {s : Shared} {H : Hp} {E : XK} {vs : List V} {Q : VK} (hb : RSs (cxF P w K mg base N qual scope f cdv A outer s H E) body fb) (h : SpL K mg ps.length (runB N.length fb) vs H Q E) :
    ∃ t, PSs (cxF P w K mg base N qual scope f cdv A outer s H E) body t ∧ t { nx := fun _ H' => Q .non H', rt := Q } (L2.start N vs) H := by
  obtain ⟨m, ds, h, hl, rl, r, p⟩ := h
  have b := hb.run (fun cls d _ H => E cls d H) (takes_of rfl rfl rfl rfl)
  refine ⟨_, b, m, _, h, rl, start_env r, ?_⟩
  unfold runB at p
  cases q : fb (startE N.length ds) h with
  | nx ρ h' => rw [q] at p; exact fun m' H' σ' e r' en => p m' H' .non e r' (by simp only [RD])
  | rt d h' => rw [q] at p; exact fun m' H' v e r' rd => p m' H' v e r' rd
  | er x ρ h' => rw [q] at p; exact fun m' H' σ' c dd e r' en rx => p m' H' c dd e r' rx
  | bk ρ h' => rw [q] at p; exact p.elim
  | ct ρ h' => rw [q] at p; exact p.elim
  | no => rw [q] at p; exact p.elim
/-- THE RULE of a def, by its body -/
theorem fn_ok {gb : Prop} (F : FunD K x qual params body scope dvs kws f fd) (S : FnScope N ps scope)
    (hb : ∀ (cdv : Value) (A : Around) (outer : List Env) (s : Shared) (H : Hp) (E : XK), RoomB gb k (A.deeper (envOfC qual scope s.heap.objs.size f cdv)) → RSs (cxF P w K mg base N qual scope f cdv A outer s H E) body fb) :
    FnB gb P w K mg base (k + 1) f fd ps (runB N.length fb) := by
  obtain ⟨oc, od, dV, kV, doc, pm, an, cdv, ct, osl, rfl, lk, hcd, _, _⟩ := F.ex
  constructor
  intro A outer s H args us vs Q E hr e0 hbi rv hsp
  have vl : vs.length = ps.length := by
    obtain ⟨_, ds, _, hl, _, r, _⟩ := hsp
    rw [← r.len, hl]
  have old := fun b o e => (e0.bs b o e).1
  have KX : K.In s.heap := e0.mod.kin.keeps old
  have lim : s.heap.NoLimit := e0.mod.nolimit.keeps old
  refine codeAny_call_function hr.room.depth (KX _ _ lk) rfl S.co S.gen rfl (PySem.W.codeRec_of KX hcd) (hbi _ _ _ _
    (wpAny_newFunctionEnv_cells S.kind (fun ⟨n, v⟩ hy => (S.par n (List.of_mem_zip hy).1).elim .inl fun q => .inr ⟨q, PySem.W.cellsFrom_some _ _ _ (.inl q)⟩) fun env he s1 x1 => ?_))
  subst he
  obtain ⟨t, ht, hq⟩ := body_ok (hb cdv A outer s H E (hr.deep _)) hsp
  have I0 := inv_start (CX := L2.CX P w) (w := w) (P := P) (E := E) S hr.room.hd e0 vl rv x1
  refine ⟨lim.keeps x1.toInCall.keep, codeAny_func (wpAny_mono (ht.run [] s1 (L2.start N vs) H _ I0 hq) (fun fl s2 hs => ?_) fun e s2 hs => hs)⟩
  cases fl with
  | next => obtain ⟨σ2, H2, J, q⟩ := hs; exact ⟨.non, H2, J.os, J.bare, J.base, J.hok, rfl, q⟩
  | ret u => obtain ⟨v, σ2, H2, J, r2, q⟩ := hs; exact ⟨v, H2, J.os, J.bare, J.base, J.hok, r2, q⟩
  | brk => obtain ⟨_, _, _, q⟩ := hs; exact q.elim
  | cont => obtain ⟨_, _, _, q⟩ := hs; exact q.elim
end
/-! ### binding -/
structure DBn (K : PySem.W.Frag) (mg : Str → Option Value) (fd : FuncData) (ps : List Str) (n : Nat) (ks : List Str) (gD : List D → List D → List D) : Prop where
  ex : ∃ g gV, KBn K fd ps n ks g gV ∧ ∀ (m : List Addr) (H : Hp) (ds : List D) (vs : List V) (es : List D) (zs : List V), ds.length = n → es.length = ks.length → RDs K mg m H ds vs → RDs K mg m H es zs → RDs K mg m H (gD ds es) (gV vs zs)
theorem dbn_all {K : PySem.W.Frag} {mg : Str → Option Value} {fd : FuncData} {ps : List Str} (hb : Binds K fd ps []) : DBn K mg fd ps ps.length [] (fun ds _ => ds) :=
  ⟨fun us _ => us, fun vs _ => vs, ⟨fun s us ws X l1 l2 => by
    have := hb s us X (by simpa using l1)
    simpa using this, fun r _ => r⟩, fun m H ds vs es zs _ _ r _ => r⟩
/-- the keywords' values -/
structure RK (X : Cx) (kws : List Keyword) (f : SA) : Prop where
  run : ∀ W, Takes X W → PK X kws (LA X.K X.mg W f)
theorem rk_nil {X : Cx} : RK X [] aNil := ⟨fun W _ => ⟨fun pos pins s σ H Q I ⟨m, ρ, h, r, en, p⟩ => pk_nil.run pos pins s σ H Q I (p.ok r (by simp only [RDs]))⟩⟩
theorem rk_cons {X : Cx} {e : Expr} {kws : List Keyword} {nm : Option Str} {kpos : Pos} {f : SE} {g : SA} (ha : RE X e f) (hr : RK X kws g) : RK X (⟨nm, e, kpos⟩ :: kws) (aCons f g) :=
  ⟨fun W tk => ⟨fun pos pins s σ H Q I ⟨m, ρ, h, r, en, p⟩ => (pk_cons (ha.run W tk) (hr.run W tk)).run pos pins s σ H Q I
    ⟨m, ρ, h, r, en, p.bind.mono (fun x H1 ⟨m1, a, h1, e1, r1, ra, p1⟩ => ⟨m1, ρ, h1, r1, en.ext e1, p1.bind.mono (fun xs H2 ⟨m2, as, h2, e2, r2, ras, p2⟩ =>
      p2.ok r2 (by simp only [RDs]; exact ⟨x, xs, rfl, RD.ext e2 _ _ ra, ras⟩)) fun _ _ _ z => z⟩) fun _ _ _ z => z⟩⟩⟩
/-- f(..): its positional arguments, its keywords -/
def sCall (f : Fs) (n m : Nat) (gD : List D → List D → List D) (fa fk : SA) : SE := fun ρ h => (fa ρ h).bind fun ds h1 => (fk ρ h1).bind fun es h2 => if ds.length = n ∧ es.length = m then f (gD ds es) h2 else .no
section
variable {gb : Prop} {X : Cx} {k n : Nat} {f C : Addr} {fd : FuncData} {ps ks : List Str} {fs : Fs} {x c m : Str} {p pos apos : Pos} {e o : Expr} {es : List Expr} {kws : List Keyword} {fa fk : SA} {fo : SE} {gD : List D → List D → List D}
/-- the callee runs; what it raises is wished for at the slots -/
theorem run_g {pins : List (Addr × Obj)} {σ : Sl} {H : Hp} {s : Shared} {Q : VK} {us ws : List Value} {vs zs : List V} {W : WX} {g : List Value → List Value → List Value} {gV : List V → List V → List V} (tk : Takes X W) (F : FnB gb X.prog X.w X.K X.mg X.base k f fd ps fs) (hr : RoomB gb k X.A) (hb : KBn X.K fd ps n ks g gV)
    (I : Inv X pins σ H s) (r : Vals vs us) (rz : Vals zs ws) (l1 : vs.length = n) (l2 : zs.length = ks.length) (h : SpL X.K X.mg ps.length fs (gV vs zs) H Q (fun cls d H' => W cls d σ H')) : wpAny (model X.prog X.w) X.A (call (.ref f) us (ks.zip ws)) (EP X pins σ Q) X.xe s := by
  have r2 := hb.rel r rz
  refine wpAny_call (codeAny_mono (F.run X.A X.stack s H ⟨us, ks.zip ws⟩ (g us ws) (gV vs zs) Q _ hr I.env0 (hb.to s us ws I.kIn (r.length.symm.trans l1) (rz.length.symm.trans l2)) r2 h) fun r s' hq => ?_)
  cases r with
  | error e => exact passAt tk σ pins H s e s' I hq
  | ok fl =>
    cases fl with
    | ret u => exact I.after hq
    | next => exact False.elim hq
    | brk => exact False.elim hq
    | cont => exact False.elim hq
/-- from the values -/
theorem run_d {pins : List (Addr × Obj)} {σ : Sl} {H : Hp} {s : Shared} {Q : VK} {us ws : List Value} {vs zs : List V} {W : WX} {ds es : List D} {mm : List Addr} {h : Hs} (tk : Takes X W) (F : FnB gb X.prog X.w X.K X.mg X.base k f fd ps fs) (hr : RoomB gb k X.A) (hb : DBn X.K X.mg fd ps n ks gD)
    (hg : ∀ ds es : List D, ds.length = n → es.length = ks.length → (gD ds es).length = ps.length) (I : Inv X pins σ H s) (r : Vals vs us) (rz : Vals zs ws) (rl : Rel X.K X.mg mm H h) (rd : RDs X.K X.mg mm H ds vs) (re : RDs X.K X.mg mm H es zs) (l1 : ds.length = n) (l2 : es.length = ks.length)
    (po : Po X.K X.mg (RD X.K X.mg) mm H (fs (gD ds es) h) Q (fun cls d H' => W cls d σ H')) : wpAny (model X.prog X.w) X.A (call (.ref f) us (ks.zip ws)) (EP X pins σ Q) X.xe s := by
  obtain ⟨g, gV, kb, kd⟩ := hb.ex
  exact run_g tk F hr kb I r rz (by rw [← rd.len]; exact l1) (by rw [← re.len]; exact l2) ⟨mm, gD ds es, h, hg ds es l1 l2, rl, kd mm H ds vs es zs l1 l2 rd re, po⟩
/-- f(e, ..) -/
theorem re_call (F : FnB gb X.prog X.w X.K X.mg X.base k f fd ps fs) {j : Nat} (hr : RoomB gb j X.A) (hj : k ≤ j) (hg : Gl X x) (hm : X.mg x = some (.ref f)) (hk : PySem.W.keepIn X.K (.ref f) = true) (hb : DBn X.K X.mg fd ps n [] gD) (hgl : ∀ ds es : List D, ds.length = n → es.length = 0 → (gD ds es).length = ps.length)
    (ha : RA X (e :: es) fa) (hdb : (x == ("__debug__" : Str)) = false := by decide) (he : starEach (e :: es) X.env = (false, eval e X.env) :: starEach es X.env := by rfl) (hpl : (backTo pos (starEach es X.env)).any (·.1) = false := by rfl) :
    RE X (.Call (.Name x p) (e :: es) [] pos) (sCall fs n 0 gD fa aNil) :=
  ⟨fun W tk => ⟨fun pins s σ H Q I ⟨m, ρ, h, rl, en, po⟩ => by
    refine wpAny_Call_Name_kw (ld_glob I hg hm ?_ hdb)
    refine PySem.W.callWith_K (h₀ := X.base) I.ok.mod.kin hk (thn ((ha.run W tk).run pos pins s σ H _ I ⟨m, ρ, h, rl, en, po.bind⟩) fun us s1 ⟨vs, H1, I1, r, m1, ds, h1, e1, r1, ra, p1⟩ => ⟨I1.kIn, ?_⟩) he hpl
    have p2 : Po X.K X.mg (RD X.K X.mg) m1 H1 (if ds.length = n ∧ ([] : List D).length = 0 then fs (gD ds []) h1 else .no) Q (fun c dd H' => W c dd σ H') := p1
    split at p2
    · rename_i hc
      exact run_d (ks := []) (ws := []) (zs := []) (es := []) tk F (hr.mono hj) hb hgl I1 r .nil r1 ra (by simp only [RDs]) hc.1 rfl p2
    · exact p2.elim⟩⟩
/-- f() -/
theorem re_call0 (F : FnB gb X.prog X.w X.K X.mg X.base k f fd ps fs) {j : Nat} (hr : RoomB gb j X.A) (hj : k ≤ j) (hg : Gl X x) (hm : X.mg x = some (.ref f)) (hk : PySem.W.keepIn X.K (.ref f) = true) (hb : DBn X.K X.mg fd ps 0 [] gD) (hgl : ∀ ds es : List D, ds.length = 0 → es.length = 0 → (gD ds es).length = ps.length)
    (hdb : (x == ("__debug__" : Str)) = false := by decide) : RE X (.Call (.Name x p) [] [] pos) (sCall fs 0 0 gD aNil aNil) :=
  ⟨fun W tk => ⟨fun pins s σ H Q I ⟨m, ρ, h, rl, en, po⟩ => by
    refine wpAny_Call_Name_kw (ld_glob I hg hm ?_ hdb)
    refine PySem.W.callWith_K0 I.kIn hk ?_
    have p2 : Po X.K X.mg (RD X.K X.mg) m H (if ([] : List D).length = 0 ∧ ([] : List D).length = 0 then fs (gD [] []) h else .no) Q (fun c dd H' => W c dd σ H') := po
    rw [if_pos ⟨rfl, rfl⟩] at p2
    exact run_d (ks := []) (us := []) (ws := []) (vs := []) (zs := []) (ds := []) (es := []) tk F (hr.mono hj) hb hgl I .nil .nil rl (by simp only [RDs]) (by simp only [RDs]) rfl rfl p2⟩⟩
/-- f(e, .., k = v, ..) -/
theorem re_callK (F : FnB gb X.prog X.w X.K X.mg X.base k f fd ps fs) {j : Nat} (hr : RoomB gb j X.A) (hj : k ≤ j) (hg : Gl X x) (hm : X.mg x = some (.ref f)) (hk : PySem.W.keepIn X.K (.ref f) = true) (hb : DBn X.K X.mg fd ps n ks gD) (hgl : ∀ ds es : List D, ds.length = n → es.length = ks.length → (gD ds es).length = ps.length)
    (ha : RA X (e :: es) fa) (hkw : RK X kws fk) (hall : (backToKw pos (keywordEach kws X.env)).all (·.1.isSome) = true := by rfl) (hks : (backToKw pos (keywordEach kws X.env)).filterMap (·.1) = ks := by rfl)
    (hdb : (x == ("__debug__" : Str)) = false := by decide) (he : starEach (e :: es) X.env = (false, eval e X.env) :: starEach es X.env := by rfl)
    (hpl : ((backTo pos (starEach (e :: es) X.env)).any (·.1) || (backToKw pos (keywordEach kws X.env)).any (·.1.isNone)) = false := by rfl) :
    RE X (.Call (.Name x p) (e :: es) kws pos) (sCall fs n ks.length gD fa fk) :=
  ⟨fun W tk => ⟨fun pins s σ H Q I ⟨m, ρ, h, rl, en, po⟩ => by
    refine wpAny_Call_Name_kw (ld_glob I hg hm ?_ hdb)
    refine PySem.W.callWith_KW (h₀ := X.base) I.ok.mod.kin hk hall (thn ((ha.run W tk).run pos pins s σ H _ I ⟨m, ρ, h, rl, en, po.bind⟩) fun us s1 ⟨vs, H1, I1, r, m1, ds, h1, e1, r1, ra, p1⟩ => ?_) hpl he
    refine thn ((hkw.run W tk).run pos pins s1 σ H1 _ I1 ⟨m1, ρ, h1, r1, en.ext e1, p1.bind⟩) fun ws s2 ⟨zs, H2, I2, rz, m2, es', h2, e2, r2, rb, p2⟩ => ⟨I2.kIn, ?_⟩
    rw [hks]
    split at p2
    · rename_i hc
      exact run_d tk F (hr.mono hj) hb hgl I2 r rz r2 (RDs.ext e2 _ _ ra) rb hc.1 hc.2 p2
    · exact p2.elim⟩⟩
/-- o.m(e, ..), o of the class c -/
def sMeth (c : Str) (f : Fs) (n : Nat) (gD : List D → List D → List D) (fo : SE) (fa : SA) : SE := fun ρ h => (fo ρ h).bind fun d h1 => match asIns d h1 with
  | some (c', fs) => if c' = c ∧ fs.lookup m = none then (fa ρ h1).bind fun ds h2 => if ds.length = n then f (gD (d :: ds) []) h2 else .no else .no
  | none => .no
theorem re_meth {pl : Sem Bool} (ho : RE X o fo) (hC : X.mg c = some (.ref C)) (cl : Cls X.K C) (hm : Meth X.K C m f) (F : FnB gb X.prog X.w X.K X.mg X.base k f fd ps fs) {j : Nat} (hr : RoomB gb j X.A) (hj : k ≤ j) (hb : DBn X.K X.mg fd ps (n + 1) [] gD)
    (hgl : ∀ ds es : List D, ds.length = n + 1 → es.length = 0 → (gD ds es).length = ps.length) (ha : RA X (e :: es) fa)
    (hst : starEach (e :: es) X.env = (false, eval e X.env) :: starEach es X.env := by rfl) (hpl : (backTo pos (starEach es X.env)).any (·.1) = false := by rfl)
    (ht : eval (.Call (.Attribute o m apos) (e :: es) [] pos) X.env = (do
      let ov ← eval o X.env
      standAt apos.atName
      let (f, first) ← holding [ov] (getMethod ov m pl)
      callWith pos f first (backTo pos (starEach (e :: es) X.env)) (backToKw pos (keywordEach [] X.env))) := by rfl) :
    RE X (.Call (.Attribute o m apos) (e :: es) [] pos) (sMeth (m := m) c fs n gD fo fa) :=
  ⟨fun W tk => ⟨fun pins s σ H Q I ⟨mm, ρ, h, rl, en, po⟩ => by
    refine PySem.W.methodCall_KW (pl := pl) (thn ((ho.run W tk).run pins s σ H _ I ⟨mm, ρ, h, rl, en, po.bind⟩) fun u s1 ⟨y, H1, I1, rx, m1, d, h1, e1, r1, rd, p1⟩ => ?_) ht
    split at p1
    · rename_i c' fds hi
      split at p1
      · rename_i hc
        obtain ⟨a, C', dx, ys, rfl, g, fH, rf⟩ := asIns_ok r1 rd hi
        rw [hc.1, hC] at g; cases g
        obtain rfl : u = Value.ref a := rx
        refine getmeth_ok I1 fH cl hm (rf.look.2 hc.2) ?_
        refine PySem.W.callWith_K (first := [.ref a]) (h₀ := X.base) I.ok.mod.kin hm.kp (thn ((ha.run W tk).run pos pins s1 σ H1 _ I1 ⟨m1, ρ, h1, r1, en.ext e1, p1.bind⟩) fun us s2 ⟨vs, H2, I2, r, m2, ds, h2, e2, r2, ra, p2⟩ => ⟨I2.kIn, ?_⟩) hst hpl
        split at p2
        · rename_i hl
          refine run_d (ks := []) (us := .ref a :: us) (vs := .ref a :: vs) (ws := []) (zs := []) (ds := d :: ds) (es := []) tk F (hr.mono hj) hb hgl I2 (.cons rfl r) .nil r2 ?_ (by simp only [RDs]) (by simp [hl]) rfl p2
          simp only [RDs]
          exact ⟨_, vs, rfl, RD.ext e2 _ _ rd, ra⟩
        · exact p2.elim
      · exact p1.elim
    · exact p1.elim⟩⟩
def sMeth0 (m c : Str) (f : Fs) (gD : List D → List D → List D) (fo : SE) : SE := fun ρ h => (fo ρ h).bind fun d h1 => match asIns d h1 with
  | some (c', fs) => if c' = c ∧ fs.lookup m = none then f (gD [d] []) h1 else .no
  | none => .no
theorem re_meth0 {pl : Sem Bool} (ho : RE X o fo) (hC : X.mg c = some (.ref C)) (cl : Cls X.K C) (hm : Meth X.K C m f) (F : FnB gb X.prog X.w X.K X.mg X.base k f fd ps fs) {j : Nat} (hr : RoomB gb j X.A) (hj : k ≤ j) (hb : DBn X.K X.mg fd ps 1 [] gD)
    (hgl : ∀ ds es : List D, ds.length = 1 → es.length = 0 → (gD ds es).length = ps.length)
    (ht : eval (.Call (.Attribute o m apos) [] [] pos) X.env = (do
      let ov ← eval o X.env
      standAt apos.atName
      let (f, first) ← holding [ov] (getMethod ov m pl)
      callWith pos f first (backTo pos (starEach [] X.env)) (backToKw pos (keywordEach [] X.env))) := by rfl) :
    RE X (.Call (.Attribute o m apos) [] [] pos) (sMeth0 m c fs gD fo) :=
  ⟨fun W tk => ⟨fun pins s σ H Q I ⟨mm, ρ, h, rl, en, po⟩ => by
    refine PySem.W.methodCall_KW (pl := pl) (thn ((ho.run W tk).run pins s σ H _ I ⟨mm, ρ, h, rl, en, po.bind⟩) fun u s1 ⟨y, H1, I1, rx, m1, d, h1, e1, r1, rd, p1⟩ => ?_) ht
    split at p1
    · rename_i c' fds hi
      split at p1
      · rename_i hc
        obtain ⟨a, C', dx, ys, rfl, g, fH, rf⟩ := asIns_ok r1 rd hi
        rw [hc.1, hC] at g; cases g
        obtain rfl : u = Value.ref a := rx
        refine getmeth_ok I1 fH cl hm (rf.look.2 hc.2) ?_
        refine PySem.W.callWith_K0 (first := [.ref a]) I1.kIn hm.kp ?_
        refine run_d (ks := []) (us := [.ref a]) (vs := [.ref a]) (ws := []) (zs := []) (ds := [d]) (es := []) tk F (hr.mono hj) hb hgl I1 (.cons rfl .nil) .nil r1 ?_ (by simp only [RDs]) rfl rfl p1
        simp only [RDs]
        exact ⟨_, [], rfl, rd, rfl⟩
      · exact p1.elim
    · exact p1.elim⟩⟩
/-- C(..): a new instance, then its __init__ -/
def mkD (c : Str) (f : Fs) (gD : List D → List D → List D) (ds es : List D) (h : Hs) : R D := (f (gD (.ref h.length :: ds) es) (h ++ [.ins c []])).bind fun v h3 => match v with
  | .non => .ok (.ref h.length) h3
  | _ => .no
def sMake (c : Str) (f : Fs) (n m : Nat) (gD : List D → List D → List D) (fa fk : SA) : SE := fun ρ h => (fa ρ h).bind fun ds h1 => (fk ρ h1).bind fun es h2 => if ds.length = n ∧ es.length = m then mkD c f gD ds es h2 else .no
theorem run_mk {pins : List (Addr × Obj)} {σ : Sl} {H : Hp} {s : Shared} {Q : VK} {us ws : List Value} {vs zs : List V} {W : WX} {ds es : List D} {mm : List Addr} {h : Hs} (tk : Takes X W) (M : Mk X.K C f) (hC : X.mg c = some (.ref C)) (F : FnB gb X.prog X.w X.K X.mg X.base k f fd ps fs) (hr : RoomB gb (k + 1) X.A)
    (hb : DBn X.K X.mg fd ps (n + 1) ks gD) (hgl : ∀ ds es : List D, ds.length = n + 1 → es.length = ks.length → (gD ds es).length = ps.length) (I : Inv X pins σ H s) (r : Vals vs us) (rz : Vals zs ws) (rl : Rel X.K X.mg mm H h) (rd : RDs X.K X.mg mm H ds vs) (re : RDs X.K X.mg mm H es zs) (l1 : ds.length = n) (l2 : es.length = ks.length)
    (po : Po X.K X.mg (RD X.K X.mg) mm H (mkD c fs gD ds es h) Q (fun cls d H' => W cls d σ H')) : wpAny (model X.prog X.w) X.A (call (.ref C) us (ks.zip ws)) (EP X pins σ Q) X.xe s := by
  obtain ⟨g, gV, hbk, kd⟩ := hb.ex
  have hx0 : H (s.heap.objs.size + 1) = none := I.hok.fresh (Nat.le_succ _)
  have hd0 : H s.heap.objs.size = none := I.hok.fresh (Nat.le_refl _)
  have hne : s.heap.objs.size ≠ s.heap.objs.size + 1 := Nat.ne_of_lt (Nat.lt_succ_self _)
  have I2 := Inv.made (C := C) I
  have ea : Ext mm H mm (upd H s.heap.objs.size (.own (s.heap.objs.size + 1))) := Ext.new hd0
  have hx1 : (upd H s.heap.objs.size (.own (s.heap.objs.size + 1))) (s.heap.objs.size + 1) = none := by rw [upd_ne hne.symm]; exact hx0
  have eb : Ext mm (upd H s.heap.objs.size (.own (s.heap.objs.size + 1))) (mm ++ [s.heap.objs.size + 1]) (upd (upd H s.heap.objs.size (.own (s.heap.objs.size + 1))) (s.heap.objs.size + 1) (.ins C s.heap.objs.size [])) := Ext.alloc hx1
  have rl2 := (rl.new (o := .own (s.heap.objs.size + 1)) hd0).alloc (u := .ins c []) hx1 ⟨C, s.heap.objs.size, [], hC, upd_same, by simp only [RDf]⟩
  have e2 := ea.trans eb
  have rdn : RDs X.K X.mg (mm ++ [s.heap.objs.size + 1]) (upd (upd H s.heap.objs.size (.own (s.heap.objs.size + 1))) (s.heap.objs.size + 1) (.ins C s.heap.objs.size [])) (D.ref h.length :: ds) (V.ref (s.heap.objs.size + 1) :: vs) := by
    simp only [RDs, RD]
    exact ⟨_, vs, rfl, ⟨_, rfl, by rw [List.getElem?_append_right (by rw [rl.len]; omega), rl.len]; simp⟩, RDs.ext e2 _ _ rd⟩
  have r1 : Vals (V.ref (s.heap.objs.size + 1) :: vs) (Value.ref (s.heap.objs.size + 1) :: us) := .cons rfl r
  have r2 := hbk.rel r1 rz
  have n1 : (Value.ref (s.heap.objs.size + 1) :: us).length = n + 1 := by
    rw [List.length_cons, ← r.length, ← rd.len, l1]
  have l2' : zs.length = ks.length := by rw [← re.len]; exact l2
  have hq : SpL X.K X.mg ps.length fs (gV (V.ref (s.heap.objs.size + 1) :: vs) zs) (upd (upd H s.heap.objs.size (.own (s.heap.objs.size + 1))) (s.heap.objs.size + 1) (.ins C s.heap.objs.size [])) (fun v H2 => v = .non ∧ Q (.ref (s.heap.objs.size + 1)) H2) (fun cls d H' => W cls d σ H') := by
    refine ⟨_, _, _, hgl (.ref h.length :: ds) es (by simp [l1]) l2, rl2, kd _ _ _ _ es zs (by simp [l1]) l2 rdn (RDs.ext e2 _ _ re), ?_⟩
    have p2 := po.ext e2
    unfold mkD at p2
    refine p2.bind.mono (fun v H3 ⟨m3, d, h3, e3, r3, rv, p3⟩ => ?_) fun _ _ _ z => z
    split at p3
    · simp only [RD] at rv
      refine ⟨rv, p3.ok r3 ?_⟩
      simp only [RD]
      exact ⟨_, rfl, e3.get (by rw [List.getElem?_append_right (by rw [rl.len]; omega), rl.len]; simp)⟩
    · exact p3.elim
  refine wpAny_call (make_map (f := f) I.kIn M.makes M.init (beq_iff_eq.mp M.fn) (codeAny_mono (F.run _ X.stack _ _ ⟨Value.ref (s.heap.objs.size + 1) :: us, ks.zip ws⟩ (g (Value.ref (s.heap.objs.size + 1) :: us) ws) _ _ _ (hr.make C us (ks.zip ws))
    (I2.env0.make C us (ks.zip ws)) (hbk.to _ (Value.ref (s.heap.objs.size + 1) :: us) ws I2.kIn n1 (rz.length.symm.trans l2')) r2 hq) fun r s' hq' => ?_))
  cases r with
  | error e => exact passAt tk σ pins _ _ e s' I2 hq'
  | ok fl =>
    cases fl with
    | ret u =>
      obtain ⟨v, H', I3, rv, ev, q3⟩ := I2.after hq'
      subst ev
      exact ⟨rv, ⟨V.ref (s.heap.objs.size + 1), H', I3, rfl, q3⟩⟩
    | next => exact False.elim hq'
    | brk => exact False.elim hq'
    | cont => exact False.elim hq'
theorem re_make (M : Mk X.K C f) (F : FnB gb X.prog X.w X.K X.mg X.base k f fd ps fs) {j : Nat} (hr : RoomB gb j X.A) (hj : k + 1 ≤ j) (hg : Gl X c) (hm : X.mg c = some (.ref C)) (hb : DBn X.K X.mg fd ps (n + 1) [] gD)
    (hgl : ∀ ds es : List D, ds.length = n + 1 → es.length = 0 → (gD ds es).length = ps.length) (ha : RA X (e :: es) fa) (hdb : (c == ("__debug__" : Str)) = false := by decide) (he : starEach (e :: es) X.env = (false, eval e X.env) :: starEach es X.env := by rfl)
    (hpl : (backTo pos (starEach es X.env)).any (·.1) = false := by rfl) : RE X (.Call (.Name c p) (e :: es) [] pos) (sMake c fs n 0 gD fa aNil) :=
  ⟨fun W tk => ⟨fun pins s σ H Q I ⟨m, ρ, h, rl, en, po⟩ => by
    refine wpAny_Call_Name_kw (ld_glob I hg hm ?_ hdb)
    refine PySem.W.callWith_K (h₀ := X.base) I.ok.mod.kin M.kp (thn ((ha.run W tk).run pos pins s σ H _ I ⟨m, ρ, h, rl, en, po.bind⟩) fun us s1 ⟨vs, H1, I1, r, m1, ds, h1, e1, r1, ra, p1⟩ => ⟨I1.kIn, ?_⟩) he hpl
    have p2 : Po X.K X.mg (RD X.K X.mg) m1 H1 (if ds.length = n ∧ ([] : List D).length = 0 then mkD c fs gD ds [] h1 else .no) Q (fun c dd H' => W c dd σ H') := p1
    split at p2
    · rename_i hc
      exact run_mk (ks := []) (ws := []) (zs := []) (es := []) tk M hm F (hr.mono hj) hb hgl I1 r .nil r1 ra (by simp only [RDs]) hc.1 rfl p2
    · exact p2.elim⟩⟩
theorem re_makeK (M : Mk X.K C f) (F : FnB gb X.prog X.w X.K X.mg X.base k f fd ps fs) {j : Nat} (hr : RoomB gb j X.A) (hj : k + 1 ≤ j) (hg : Gl X c) (hm : X.mg c = some (.ref C)) (hb : DBn X.K X.mg fd ps (n + 1) ks gD)
    (hgl : ∀ ds es : List D, ds.length = n + 1 → es.length = ks.length → (gD ds es).length = ps.length) (ha : RA X (e :: es) fa) (hkw : RK X kws fk) (hall : (backToKw pos (keywordEach kws X.env)).all (·.1.isSome) = true := by rfl)
    (hks : (backToKw pos (keywordEach kws X.env)).filterMap (·.1) = ks := by rfl) (hdb : (c == ("__debug__" : Str)) = false := by decide) (he : starEach (e :: es) X.env = (false, eval e X.env) :: starEach es X.env := by rfl)
    (hpl : ((backTo pos (starEach (e :: es) X.env)).any (·.1) || (backToKw pos (keywordEach kws X.env)).any (·.1.isNone)) = false := by rfl) :
    RE X (.Call (.Name c p) (e :: es) kws pos) (sMake c fs n ks.length gD fa fk) :=
  ⟨fun W tk => ⟨fun pins s σ H Q I ⟨m, ρ, h, rl, en, po⟩ => by
    refine wpAny_Call_Name_kw (ld_glob I hg hm ?_ hdb)
    refine PySem.W.callWith_KW (h₀ := X.base) I.ok.mod.kin M.kp hall (thn ((ha.run W tk).run pos pins s σ H _ I ⟨m, ρ, h, rl, en, po.bind⟩) fun us s1 ⟨vs, H1, I1, r, m1, ds, h1, e1, r1, ra, p1⟩ => ?_) hpl he
    refine thn ((hkw.run W tk).run pos pins s1 σ H1 _ I1 ⟨m1, ρ, h1, r1, en.ext e1, p1.bind⟩) fun ws s2 ⟨zs, H2, I2, rz, m2, es', h2, e2, r2, rb, p2⟩ => ⟨I2.kIn, ?_⟩
    rw [hks]
    split at p2
    · rename_i hc
      exact run_mk tk M hm F (hr.mono hj) hb hgl I2 r rz r2 (RDs.ext e2 _ _ ra) rb hc.1 hc.2 p2
    · exact p2.elim⟩⟩
theorem re_makeK0 (M : Mk X.K C f) (F : FnB gb X.prog X.w X.K X.mg X.base k f fd ps fs) {j : Nat} (hr : RoomB gb j X.A) (hj : k + 1 ≤ j) (hg : Gl X c) (hm : X.mg c = some (.ref C)) (hb : DBn X.K X.mg fd ps 1 ks gD)
    (hgl : ∀ ds es : List D, ds.length = 0 + 1 → es.length = ks.length → (gD ds es).length = ps.length) (hkw : RK X kws fk) (hall : (backToKw pos (keywordEach kws X.env)).all (·.1.isSome) = true := by rfl)
    (hks : (backToKw pos (keywordEach kws X.env)).filterMap (·.1) = ks := by rfl) (hdb : (c == ("__debug__" : Str)) = false := by decide)
    (hpl : ((backTo pos (starEach [] X.env)).any (·.1) || (backToKw pos (keywordEach kws X.env)).any (·.1.isNone)) = false := by rfl) :
    RE X (.Call (.Name c p) [] kws pos) (sMake c fs 0 ks.length gD aNil fk) :=
  ⟨fun W tk => ⟨fun pins s σ H Q I ⟨m, ρ, h, rl, en, po⟩ => by
    refine wpAny_Call_Name_kw (ld_glob I hg hm ?_ hdb)
    refine PySem.W.callWith_KW0 (h₀ := X.base) I.ok.mod.kin M.kp hall ?_ hpl
    have po' : Po X.K X.mg (RD X.K X.mg) m H ((fk ρ h).bind fun es h2 => if ([] : List D).length = 0 ∧ es.length = ks.length then mkD c fs gD [] es h2 else .no) Q (fun c dd H' => W c dd σ H') := po
    refine thn ((hkw.run W tk).run pos pins s σ H _ I ⟨m, ρ, h, rl, en, po'.bind⟩) fun ws s2 ⟨zs, H2, I2, rz, m2, es', h2, e2, r2, rb, p2⟩ => ⟨I2.kIn, ?_⟩
    rw [hks]
    split at p2
    · rename_i hc
      exact run_mk (us := []) (vs := []) (ds := []) tk M hm F (hr.mono hj) hb hgl I2 .nil rz r2 (by simp only [RDs]) rb rfl hc.2 p2
    · exact p2.elim⟩⟩
theorem re_make0 (M : Mk X.K C f) (F : FnB gb X.prog X.w X.K X.mg X.base k f fd ps fs) {j : Nat} (hr : RoomB gb j X.A) (hj : k + 1 ≤ j) (hg : Gl X c) (hm : X.mg c = some (.ref C)) (hb : DBn X.K X.mg fd ps 1 [] gD)
    (hgl : ∀ ds es : List D, ds.length = 0 + 1 → es.length = 0 → (gD ds es).length = ps.length) (hdb : (c == ("__debug__" : Str)) = false := by decide) : RE X (.Call (.Name c p) [] [] pos) (sMake c fs 0 0 gD aNil aNil) :=
  ⟨fun W tk => ⟨fun pins s σ H Q I ⟨m, ρ, h, rl, en, po⟩ => by
    refine wpAny_Call_Name_kw (ld_glob I hg hm ?_ hdb)
    refine PySem.W.callWith_K0 I.kIn M.kp ?_
    have p2 : Po X.K X.mg (RD X.K X.mg) m H (if ([] : List D).length = 0 ∧ ([] : List D).length = 0 then mkD c fs gD [] [] h else .no) Q (fun c dd H' => W c dd σ H') := po
    rw [if_pos ⟨rfl, rfl⟩] at p2
    exact run_mk (ks := []) (us := []) (ws := []) (vs := []) (zs := []) (ds := []) (es := []) tk M hm F (hr.mono hj) hb hgl I .nil .nil rl (by simp only [RDs]) (by simp only [RDs]) rfl rfl p2⟩⟩
end
end G

/-! G11: the law's end. -/
namespace G
open PySem PySem.Spec PyProof.Rows L2
section
variable {P : Program} {w : World} {K : PySem.W.Frag} {mg mb : Str → Option Value} {k : Nat} {fa a : Addr} {fd : FuncData} {x : Str} {fs : Fs} {s1 : Shared} {vs : List Value} {ns : List Int}
theorem rd_ints {m : List Addr} {H : Hp} : ∀ l : List Int, RDs K mg m H (l.map D.int) (l.map V.int)
  | [] => by simp only [RDs, List.map_nil]
  | i :: l => by
    simp only [RDs, List.map_cons]
    exact ⟨V.int i, l.map V.int, rfl, by simp only [RD], rd_ints l⟩
theorem law_go (KX : K.In s1.heap) (hns : s1.heap.Ns mainGlobals mg) (hb : s1.heap.Ns builtinsNs mb) (hbb : ∀ y : Str, y ≠ "__name__" → mb y = bootBuiltins y) (hlim : s1.heap.NoLimit) (hg : s1.gens = #[])
    (ha : s1.heap.get? a = some { cls := .type "list", data := .seq vs.toArray }) (hi : IntsAre vs ns) (hl : ns.length ≤ sizeLine) (hr : RoomG k callerA) (F : ∀ base : Heap, K.In base → base.Ns mainGlobals mg → FnG P w K mg base k fa fd [x] fs)
    (hbind : ∀ (s : Shared) (u : Value), BindsTo s fd ⟨[u], []⟩ [(x, u)]) (hv : ∃ h', fs [.scr (ns.map D.int)] [] = .ok (.bl true) h') :
    codeAny (model P w) callerA (.call (.ref fa) ⟨[.ref a], []⟩) (fun r s' => r = .ok (.ret (.bool true)) ∧ OldK s1.heap s'.heap ∧ s'.os = s1.os ∧ AllBare s'.gens) s1 := by
  have rv := vals_ints hi
  have lv := hi.length
  obtain ⟨h', hv⟩ := hv
  have go : ∀ H : Hp, Only H → SqL K H a (ns.map V.int) → HOk P w H s1.heap → (∀ b, H b ≠ none → b = a) → (H a ≠ none → K.lookup a = none) →
      codeAny (model P w) callerA (.call (.ref fa) ⟨[.ref a], []⟩) (fun r s' => r = .ok (.ret (.bool true)) ∧ OldK s1.heap s'.heap ∧ s'.os = s1.os ∧ AllBare s'.gens) s1 := by
    intro H oH sH ok only hK
    have nd : ∀ {b : Addr} {o : Obj} {es : Array DictEntry} {ep : Nat}, s1.heap.get? b = some o → o.data = .dict es ep → H b = none := by
      intro b o es ep e d
      refine Classical.byContradiction fun q => ?_
      cases only b q
      rw [ha] at e; cases e
      exact absurd d (by simp)
    have up : ∀ {b : Addr} {m : Str → Option Value}, s1.heap.Ns b m → (hidT s1.heap H).Ns b m := fun {b m} z => by
      obtain ⟨o, es, ep, e, d, r⟩ := z
      exact ⟨o, es, ep, hidT_get e (nd e d), d, r⟩
    have kb : K.In (hidT s1.heap H) := fun b o e => hidT_get (KX b o e) (by
      refine Classical.byContradiction fun q => ?_
      cases only b q
      rw [hK q] at e; cases e)
    obtain ⟨mc, c1, c2⟩ := hlim
    have e0 : Env0 P w K mg (hidT s1.heap H) callerA [] s1 H :=
      ⟨rfl, ⟨kb, up hns, ⟨mb, up hb, hbb⟩, ⟨mc, up c1, c2⟩⟩, fun _ _ => of_hidT, Nat.le_of_eq (hidT_size _ _), trivial, fun b z => absurd (show b ∈ ([] : List Addr) from z) (by simp), ok, .of_eq hg⟩
    have sp : SpL K mg 1 fs [.ref a] H (fun v _ => v = .bl true) (fun _ _ _ => False) := by
      refine ⟨[], [.scr (ns.map D.int)], [], rfl, ⟨List.nodup_nil, rfl, fun n o b e => by simp at e⟩, ?_, ?_⟩
      · simp only [RDs, RD]
        exact ⟨.ref a, [], rfl, ⟨a, _, rfl, sH.elim (fun z => .inl ⟨z, by simp⟩) .inr, rd_ints ns⟩, rfl⟩
      · rw [hv]
        intro m' H' b _ _ r
        simpa only [RD] using r
    refine codeAny_mono ((F _ kb (up hns)).run callerA [] s1 H ⟨[.ref a], []⟩ [.ref a] [.ref a] _ _ hr e0 (hbind s1 (.ref a)) (.cons rfl .nil) sp) fun r s2 h => ?_
    cases r with
    | error e => obtain ⟨_, _, _, _, _, _, _, _, _, _, _, _, z⟩ := h; exact z.elim
    | ok fl =>
      cases fl with
      | ret u =>
        obtain ⟨v, H', os, bare, un, ok', r', q⟩ := h
        obtain rfl : v = .bl true := q
        obtain rfl : u = Value.bool true := r'
        refine ⟨rfl, OldK.of_keep fun b o e => ?_, os, bare⟩
        rcases oH b with q | ⟨ob, xs, q⟩
        · exact un.keep b o e q (fun z => absurd (show b ∈ ([] : List Addr) from z) (by simp)) (by simp)
        · obtain ⟨e1, _⟩ := ok b _ q
          obtain ⟨e2, _⟩ := ok' b _ (un.frzs b ob _ q)
          rw [e1] at e; cases e
          exact e2
      | next => exact h.elim
      | brk => exact h.elim
      | cont => exact h.elim
  cases hk : K.lookup a with
  | some o =>
    have e := KX a o hk
    rw [ha] at e; cases e
    exact go (fun _ => none) (fun _ => .inl rfl) (.inr ⟨_, vs.toArray, _, hk, rfl, rfl, rfl, by rw [List.size_toArray, lv]; exact hl, by simpa using rv⟩) (fun b u z => by simp at z) (fun b z => absurd rfl z) fun z => absurd rfl z
  | none =>
    have hs : ∀ {b u}, (if b = a then some (HO.frz { cls := .type "list", data := .seq vs.toArray } (.lst (ns.map V.int))) else none) = some u → b = a ∧ u = .frz { cls := .type "list", data := .seq vs.toArray } (.lst (ns.map V.int)) := fun {b u} z => by
      split at z
      · cases z; exact ⟨‹_›, rfl⟩
      · cases z
    refine go (fun b => if b = a then some (.frz { cls := .type "list", data := .seq vs.toArray } (.lst (ns.map V.int))) else none) (fun b => ?_) (.inl (.inr ⟨_, if_pos rfl⟩)) (fun b u z => ?_) (fun b z => ?_) fun _ => hk
    · by_cases q : b = a
      · exact .inr ⟨_, _, if_pos q⟩
      · exact .inl (if_neg q)
    · obtain ⟨rfl, rfl⟩ := hs z
      exact ⟨ha, by rw [List.length_map]; exact hl, vs, _, rv, ha⟩
    · refine Classical.byContradiction fun q => ?_
      exact z (if_neg q)
end
/-- THE END: what k_head leaves, from the law's def -/
theorem walk_go {l : PySem.W.OpenLaw} {n k : Nat} {q : Program} {loose : List Str} {XP : (Str → Option Value) → Heap → Prop} {YP : World → Heap → Prop} {d : DefRec} {x : Str} {fs : Fs} (hn : l.most = some n) (hn2 : n ≤ sizeLine) (hdf : d.params.defaults = []) (hr : RoomG k callerA)
    (F : ∀ (w : World) (mg : Str → Option Value) (fa : Addr) (h : Heap), YP w h → h.Ns mainGlobals mg → mg d.name = some (.ref fa) →
      ∃ (K : PySem.W.Frag) (fd : FuncData), K.In h ∧ (∀ (s : Shared) (u : Value), BindsTo s fd ⟨[u], []⟩ [(x, u)]) ∧ ∀ base : Heap, K.In base → base.Ns mainGlobals mg → FnG l.prog w K mg base k fa fd [x] fs)
    (hv : ∀ ns : List Int, ns.length ≤ n → ∃ h', fs [.scr (ns.map D.int)] [] = .ok (.bl true) h') : PySem.W.WalkO q loose XP YP l.row.toRowW d [] (fun f vs => PySem.call f vs) := by
  refine Att.attach_call hn hdf fun w s₀ s₁ mg mb fa o pm cd doc a vs ns G Y ho hd hcd hmg hobj hints hlen hg => ?_
  obtain ⟨K, fd, KX, hb, hF⟩ := F w mg fa _ Y G.T.g hmg
  exact law_go KX G.T.g G.T.b G.T.builtins G.T.nolimit hg hobj hints (Nat.le_trans hlen hn2) hr hF hb (hv ns hlen)
end G

/-! G12: what a class has of its own: __eq__, __len__ (also for != and as a test). -/
namespace G
open PySem PySem.Spec PyProof.Rows L2
/-- such a call never raises -/
def R.st {α : Type} (r : R α) : R α := match r with
  | .er _ _ => .no
  | r => r
theorem Po.st {K : PySem.W.Frag} {mg : Str → Option Value} {α β : Type} {rel : List Addr → Hp → α → β → Prop} {m : List Addr} {H : Hp} {r : R α} {Q : β → Hp → Prop} {Wx Wy : XK} (p : Po K mg rel m H r.st Q Wx) : Po K mg rel m H r Q Wy := by
  cases r with
  | ok a h => exact p
  | er e h => exact False.elim p
  | no => exact p
/-- a method of the class c that a builtin calls, of n arguments -/
structure OwnM (X : Cx) (j : Nat) (nm : Str) (n : Nat) (c : Str) (fs : Fs) : Prop where
  ex : ∃ (C f : Addr) (fd : FuncData) (ps : List Str), X.mg c = some (.ref C) ∧ PySem.W.findIn X.K (.ref C) nm = some (some (.ref f)) ∧ PySem.W.isFn X.K (.ref f) = true ∧ FnG X.prog X.w X.K X.mg X.base j f fd ps fs ∧ DBn X.K X.mg fd ps n [] (fun ds _ => ds) ∧ ps.length = n
abbrev Tbl := List (Str × Fs)
def OwnT (X : Cx) (j : Nat) (nm : Str) (n : Nat) (t : Tbl) : Prop := ∀ p ∈ t, OwnM X j nm n p.1 p.2
theorem OwnT.at {X : Cx} {j n : Nat} {nm c : Str} {t : Tbl} {fs : Fs} (o : OwnT X j nm n t) (e : t.lookup c = some fs) : OwnM X j nm n c fs := o (c, fs) (PySem.mem_of_lookup e)
section
variable {X : Cx} {j n : Nat} {A : Around} {f : Addr} {fd : FuncData} {ps : List Str} {fs : Fs}
theorem run_own (F : FnG X.prog X.w X.K X.mg X.base j f fd ps fs) (b : DBn X.K X.mg fd ps n [] (fun ds _ => ds)) (hn : ps.length = n) (hr : RoomG j A) (fr : A.frames = X.A.frames) {pins : List (Addr × Obj)} {σ : Sl} {H : Hp} {s : Shared} {Q : VK} {us : List Value} {vs : List V} {ds : List D} {mm : List Addr} {h : Hs} {Wx : XK}
    (I : Inv X pins σ H s) (r : Vals vs us) (rl : Rel X.K X.mg mm H h) (rd : RDs X.K X.mg mm H ds vs) (l : ds.length = n) (po : Po X.K X.mg (RD X.K X.mg) mm H (fs ds h).st Q Wx) : wpAny (model X.prog X.w) A (call (.ref f) us) (EP X pins σ Q) X.xe s := by
  obtain ⟨g, gV, kb, kd⟩ := b.ex
  have e0 : Env0 X.prog X.w X.K X.mg X.base A X.stack s H := by
    have e := I.env0
    exact ⟨by rw [fr]; exact e.frames, e.mod, e.bs, e.bsz, e.funs, e.frf, e.hok, e.bare⟩
  have lv : vs.length = n := by rw [← rd.len]; exact l
  have rn : RDs X.K X.mg mm H [] [] := by simp only [RDs]
  have r2 := kb.rel r (.nil : Vals [] [])
  have sp : SpL X.K X.mg ps.length fs (gV vs []) H Q (fun _ _ _ => False) := ⟨mm, ds, h, by rw [l, hn], rl, kd mm H ds vs [] [] l rfl rd rn, po.st⟩
  refine wpAny_call (codeAny_mono (F.run A X.stack s H ⟨us, []⟩ (g us []) (gV vs []) Q _ hr e0 (by
    have := kb.to s us [] I.kIn (by rw [← r.length]; exact lv) rfl
    simpa using this) r2 sp) fun r s' hq => ?_)
  cases r with
  | error e => obtain ⟨_, _, _, _, _, _, _, _, _, _, _, _, z⟩ := hq; exact z.elim
  | ok fl =>
    cases fl with
    | ret u => exact I.after hq
    | next => exact False.elim hq
    | brk => exact False.elim hq
    | cont => exact False.elim hq
end
/-! ### x == y, x != y -/
def asBl (r : R D) : R D := r.bind fun d h => match d with
  | .bl b => .ok (.bl b) h
  | _ => .no
/-- both of the class c, and c has its own == -/
def gEqO (t : Tbl) : V2 := fun u v h => match asIns u h, asIns v h with
  | some (c, _), some (c', _) => if c' = c then match t.lookup c with
    | some f => asBl (f [u, v] h).st
    | none => .no else .no
  | none, none => gEq u v h
  | _, _ => .no
def notR (r : R D) : R D := r.bind fun d h => match d with
  | .bl b => .ok (.bl (!b)) h
  | _ => .no
def gNeO (t : Tbl) : V2 := fun u v h => match asIns u h, asIns v h with
  | some (c, _), some (c', _) => if c' = c then match t.lookup c with
    | some f => notR (f [u, v] h).st
    | none => .no else .no
  | none, none => gNe u v h
  | _, _ => .no
/-- a reading of a two-place operation -/
def rd2 (K : PySem.W.Frag) (mg : Str → Option Value) (g : V2) : R2 := fun x y H Q => ∃ m h u v, Rel K mg m H h ∧ RD K mg m H u x ∧ RD K mg m H v y ∧ Po K mg (RD K mg) m H (g u v h).st Q fun _ _ _ => False
theorem bind_st {α β : Type} (r : R α) (f : α → Hs → R β) (hf : ∀ a h, (f a h).st = f a h) : (r.st.bind f).st = r.st.bind f := by
  cases r with
  | ok a h => exact hf a h
  | er e h => rfl
  | no => rfl
theorem asBl_st (r : R D) : (asBl r.st).st = asBl r.st := bind_st _ _ fun a h => by split <;> rfl
theorem notR_st (r : R D) : (notR r.st).st = notR r.st := bind_st _ _ fun a h => by split <;> rfl
theorem gEq_st (u v : D) (h : Hs) : (gEq u v h).st = gEq u v h := by unfold gEq; split <;> rfl
theorem gNe_st (u v : D) (h : Hs) : (gNe u v h).st = gNe u v h := by unfold gNe; split <;> rfl
theorem gEqO_st (t : Tbl) (u v : D) (h : Hs) : (gEqO t u v h).st = gEqO t u v h := by
  unfold gEqO
  split
  · split
    · split
      · exact asBl_st _
      · rfl
    · rfl
  · exact gEq_st _ _ _
  · rfl
theorem gNeO_st (t : Tbl) (u v : D) (h : Hs) : (gNeO t u v h).st = gNeO t u v h := by
  unfold gNeO
  split
  · split
    · split
      · exact notR_st _
      · rfl
    · rfl
  · exact gNe_st _ _ _
  · rfl
theorem op2_rd {K : PySem.W.Frag} {mg : Str → Option Value} {g : V2} (hg : ∀ u v h, (g u v h).st = g u v h) : Op2 K mg g (rd2 K mg g) := fun m H h p q x y Q Wx rl rp rq po => ⟨m, h, p, q, rl, rp, rq, by rw [← hg] at po; exact Po.st (r := (g p q h).st) (by rw [hg, hg] at *; exact po)⟩
section
variable {prog : Program} {w : World} {A : Around} {E : Value → Shared → Prop} {s : Shared} {K : PySem.W.Frag} {x y C f L : Addr} {ox oy : Obj} {od od2 : Option Obj} {base : Heap} {m : Str → Option Value}
theorem objNe_K {Q : Fin → Shared → Prop} (hu : A.units < cLine) (X : K.In s.heap) (I : PySem.W.InstAt s.heap x ox C od) (he : PySem.W.findIn K (.ref C) "__eq__" = some (some (.ref f))) (hf : PySem.W.isFn K (.ref f) = true)
    (h : wpAny (model prog w) A (call (.ref f) [.ref x, .ref y]) (fun v s' => ∃ b, v = .bool b ∧ Q (.done (.ret (.bool (!b)))) s') E s) : wpAny (model prog w) A (Builtin.«object.__ne__» ⟨[.ref x, .ref y], []⟩) Q E s := by
  unfold Builtin.«object.__ne__»
  repeat (first
    | with_reducible refine wpAny_cRoomFor hu ?_
    | (refine wpAny_bind (m := callSpecialIfBound? (.ref x) (Str.ofString "__eq__") [.ref y])
        (PySem.W.ifBound_K X I he hf (wpAny_mono h (fun r s' hr => by
          obtain ⟨b, rfl, hq⟩ := hr
          repeat (first | exact hq | exact wpAny_pure hq | exact wpAny_truthy_bool hq | (refine wpAny_bind (m := truthy (.bool _)) (wpAny_truthy_bool ?_)) | wp_step)) fun _ _ e => e)))
    | wp_step)
theorem ifBound_ne {args : List Value} {Q : Option Value → Shared → Prop} (X : K.In s.heap) (I : PySem.W.InstAt s.heap x ox C od) (hs : PySem.W.findIn K (.ref C) "__ne__" = some (some (.builtin "object.__ne__")))
    (h : wpAny (model prog w) A (call (.builtin "object.__ne__") (.ref x :: args)) (fun v => Q (some v)) E s) : wpAny (model prog w) A (callSpecialIfBound? (.ref x) "__ne__" args) Q E s := by
  simp only [callSpecialIfBound?, bindSpecialIfBound?]
  refine wpAny_holding (wpAny_bind (wpAny_bind (wpAny_bind (I.type.here ((PySem.W.looks_findIn X hs).here ?_)))))
  refine wpAny_bind (wpAny_askSetting (wpAny_ite ?_))
  have q : wpAny (model prog w) A (call (.builtin "object.__ne__") ([.ref x] ++ args) >>= fun v => pure (some v)) Q E s := wpAny_bind (wpAny_mono h (fun _ _ z => wpAny_pure z) fun _ _ z => z)
  split
  · exact wpAny_bind (wpAny_of_eq (F.cmp_object.ne.bind _) (wpAny_pure (by exact q)))
  · exact wpAny_tryCatch (wpAny_bind (wpAny_of_eq (F.cmp_object.ne.bind _) (wpAny_pure (by exact q))))
theorem ne_K {Q : Value → Shared → Prop} (hu : A.units + 1 < cLine) (F0 : Fr base L s.heap m) (X₀ : K.In base) (I : PySem.W.InstAt s.heap x ox C od) (J : PySem.W.InstAt s.heap y oy C od2) (hm : PySem.W.mroIn K C (.type "object") = some true)
    (he : PySem.W.findIn K (.ref C) "__eq__" = some (some (.ref f))) (hf : PySem.W.isFn K (.ref f) = true) (hn : PySem.W.findIn K (.ref C) "__ne__" = some (some (.builtin "object.__ne__")))
    (h : wpAny (model prog w) A.in1 (call (.ref f) [.ref x, .ref y]) (fun v s' => ∃ b, v = .bool b ∧ Q (.bool (!b)) s') E s) : wpAny (model prog w) A (richCompare .NotEq (.ref x) (.ref y)) Q E s := by
  have X := X₀.keeps F0.keep
  have one : wpAny (model prog w) A (tryCompare (.ref x) "__ne__" (.ref y)) (fun r s' => ∃ v, r = some v ∧ Q v s') E s := by
    unfold tryCompare
    refine wpAny_bind (ifBound_ne X I hn (wpAny_call (codeAny_call_builtin F.cmp_object.ne.plain F.cmpEntry_ne (PySem.W.check_slot F.cmpKind_ne F.cmpSplit_ne (I.type.andThen (PySem.W.looks_mroIn X hm)) (F.cmpArgs_ne _ _)
      (objNe_K (A := A.in1) hu X I he hf (wpAny_mono h (fun v s' hv => ?_) fun _ _ z => z))))))
    obtain ⟨b, rfl, hq⟩ := hv
    first | exact ⟨b, rfl, wpAny_pure ⟨_, rfl, hq⟩⟩ | exact ⟨b, rfl, wpAny_pure (wpAny_pure ⟨_, rfl, hq⟩)⟩ | exact ⟨b, rfl, ⟨_, rfl, hq⟩⟩
  unfold richCompare
  simp only [oneThing_ref]
  refine wpAny_holding (wpAny_bind (wpAny_cRoomFor (Nat.lt_of_succ_lt hu) ?_))
  rw [cmpInfo_NotEq]
  dsimp only
  refine wpAny_bind (I.type.here (wpAny_bind (J.type.here ?_)))
  rw [show (Value.ref C != Value.ref C) = false from by simp]
  simp only [Bool.false_eq_true, if_false]
  refine wpAny_bind (wpAny_pure ?_)
  simp only [Bool.false_eq_true, if_false]
  refine wpAny_bind (wpAny_mono one (fun r s' z => ?_) fun _ _ e => e)
  obtain ⟨v, rfl, hq⟩ := z
  first | exact wpAny_pure hq | exact wpAny_pure (wpAny_pure hq)
theorem len_body_K {Q : Value → Shared → Prop} (F0 : Fr base L s.heap m) (X₀ : K.In base) (I : PySem.W.InstAt s.heap x ox C od) (hl : PySem.W.findIn K (.ref C) "__len__" = some (some (.ref f))) (hf : PySem.W.isFn K (.ref f) = true)
    (h : wpAny (model prog w) A (call (.ref f) [.ref x]) (PySem.W.LenBack Q) E s) : wpAny (model prog w) A (Builtin.«len» ⟨[.ref x], []⟩) (fun fin s' => ∃ v, fin = .done (.ret v) ∧ Q v s') E s := by
  unfold Builtin.«len»
  refine wpAny_bind (m := oneArg "len" _) (wpAny_pure (wpAny_bind (m := callSpecial? (.ref x) (Str.ofString "__len__")) (PySem.W.special_fn (X₀.keeps F0.keep) I hl (beq_iff_eq.mp hf) (wpAny_mono h (fun r s' hr => ?_) fun _ _ z => z))))
  cases r with
  | int n u =>
    obtain ⟨⟨a1, a2⟩, hq⟩ := hr
    refine wpAny_bind (wpAny_holding (wpAny_pure (wpAny_bind (wpAny_letGo ?_))))
    show wpAny _ _ (if n < 0 then _ else _) _ _ _
    rw [if_neg (by omega)]
    show wpAny _ _ (if n ≥ 2 ^ 63 then _ else _) _ _ _
    rw [if_neg (by omega)]
    exact wpAny_bind (wpAny_mkInt (wpAny_pure ⟨_, rfl, hq⟩))
  | _ => exact hr.elim
theorem truthy_len_K {Q : Bool → Shared → Prop} (F0 : Fr base L s.heap m) (X₀ : K.In base) (I : PySem.W.InstAt s.heap x ox C od) (hb : PySem.W.findIn K (.ref C) "__bool__" = some none) (hl : PySem.W.findIn K (.ref C) "__len__" = some (some (.ref f))) (hf : PySem.W.isFn K (.ref f) = true)
    (h : wpAny (model prog w) A.in1 (call (.ref f) [.ref x]) (PySem.W.LenBack fun v s' => ∃ n t, v = .int n t ∧ Q (n != 0) s') E s) : wpAny (model prog w) A (truthy (.ref x)) Q E s := by
  have X := X₀.keeps F0.keep
  have key := len_body_K F0 X₀ I hl hf h
  have key2 : wpAny (model prog w) A (runValue (.builtin "len" ⟨[.ref x], []⟩)) (fun v s' => ∃ n t, v = .int n t ∧ Q (n != 0) s') E s := by
    refine wpAny_runValue (codeAny_builtin entry_len ?_)
    rw [Around.under_plainId plain_len _]
    exact wpAny_mono key (fun fin s' z => by obtain ⟨r, rfl, hq⟩ := z; exact hq) fun _ _ z => z
  unfold truthy
  refine wpAny_bind (m := callSpecial? (.ref x) (Str.ofString "__bool__")) (wpAny_bind (wpAny_bind (I.type.here ((PySem.W.looks_findIn X hb).here (wpAny_pure ?_)))))
  refine wpAny_bind (wpAny_bind (I.type.here ((PySem.W.looks_findIn X hl).here ?_)))
  exact wpAny_bind (wpAny_mono key2 (fun r s' h' => by obtain ⟨n, t, rfl, hq⟩ := h'; exact wpAny_pure hq) fun _ _ e => e)
end
section
variable {X : Cx} {j k : Nat} {t : Tbl}
theorem op_eqO (o : OwnT X j "__eq__" 2 t) (hr : RoomG j X.A) : OpR X (compareOp .Eq) (rd2 X.K X.mg (gEqO t)) := by
  intro pins s σ H x y v u Q I rx ry ⟨m, h, p, q, rl, rp, rq, po⟩
  rw [gEqO_st] at po
  unfold gEqO at po
  split at po
  · rename_i c fs c' fs' e1 e2
    split at po
    · rename_i hc
      subst hc
      split at po
      · rename_i f hf
        obtain ⟨C, fa, fd, ps, hC, hs, hfn, F, b, hn⟩ := (o.at hf).ex
        obtain ⟨a, C1, dx, ys, rfl, g1, fH1, _⟩ := asIns_ok rl rp e1
        obtain ⟨a2, C2, dx2, ys2, rfl, g2, fH2, _⟩ := asIns_ok rl rq e2
        rw [hC] at g1 g2
        cases g1; cases g2
        obtain rfl : v = Value.ref a := rx
        obtain rfl : u = Value.ref a2 := ry
        obtain ⟨mA, J, _⟩ := ins_get I.hok fH1
        obtain ⟨mB, J2, _⟩ := ins_get I.hok fH2
        obtain ⟨od, J, _⟩ := J.look
        obtain ⟨od2, J2, _⟩ := J2.look
        obtain ⟨m0, hF⟩ := I.fr
        show wpAny (model X.prog X.w) X.A (richCompare .Eq (.ref a) (.ref a2)) (EP X pins σ Q) X.xe s
        refine PySem.W.cmp_K (op := .Eq) (tb := .ref C) hr.room.units0 hF I.ok.mod.kin J J2.type (by simp [PySem.W.notFirst]) hs hfn ?_
        have rds : RDs X.K X.mg m H [p, q] [.ref a, .ref a2] := by
          simp only [RDs]
          exact ⟨_, _, rfl, rp, _, _, rfl, rq, rfl⟩
        have rvs : Vals [V.ref a, V.ref a2] [Value.ref a, Value.ref a2] := .cons rfl (.cons rfl .nil)
        have po' := Po.bind (rel := RD X.K X.mg) (po : Po X.K X.mg (RD X.K X.mg) m H ((f [p, q] h).st.bind _) Q fun _ _ _ => False)
        refine wpAny_mono (run_own F b hn hr rfl I rvs rl rds rfl po') (fun r s1 ⟨z, H1, I1, rz, m1, d, h1, e1, r1, rd, p1⟩ => ?_) fun _ _ z => z
        cases d with
        | bl b => simp only [RD] at rd; subst rd; obtain rfl : r = Value.bool b := rz; exact ⟨V.bl b, H1, I1, rfl, p1.ok r1 (by simp only [RD])⟩
        | _ => exact False.elim p1
      · exact po.elim
    · exact po.elim
  · exact (op_eq.or (op_eqD hr.room.units)) pins s σ H x y v u Q I rx ry (g_eq m H h p q x y Q _ rl rp rq po)
  · exact po.elim
/-- the class c has object's != and no truth of its own -/
structure OwnN (X : Cx) (c : Str) : Prop where
  ex : ∀ C, X.mg c = some (.ref C) → PySem.W.mroIn X.K C (.type "object") = some true ∧ PySem.W.findIn X.K (.ref C) "__ne__" = some (some (.builtin "object.__ne__")) ∧ PySem.W.findIn X.K (.ref C) "__bool__" = some none
theorem op_neO (o : OwnT X j "__eq__" 2 t) (on : ∀ p ∈ t, OwnN X p.1) (hr : RoomG (j + 1) X.A) : OpR X (compareOp .NotEq) (rd2 X.K X.mg (gNeO t)) := by
  intro pins s σ H x y v u Q I rx ry ⟨m, h, p, q, rl, rp, rq, po⟩
  rw [gNeO_st] at po
  unfold gNeO at po
  split at po
  · rename_i c fs c' fs' e1 e2
    split at po
    · rename_i hc
      subst hc
      split at po
      · rename_i f hf
        obtain ⟨C, fa, fd, ps, hC, hs, hfn, F, b, hn⟩ := (o.at hf).ex
        obtain ⟨hm, hne, _⟩ := (on (_, f) (PySem.mem_of_lookup hf)).ex C hC
        obtain ⟨a, C1, dx, ys, rfl, g1, fH1, _⟩ := asIns_ok rl rp e1
        obtain ⟨a2, C2, dx2, ys2, rfl, g2, fH2, _⟩ := asIns_ok rl rq e2
        rw [hC] at g1 g2
        cases g1; cases g2
        obtain rfl : v = Value.ref a := rx
        obtain rfl : u = Value.ref a2 := ry
        obtain ⟨mA, J, _⟩ := ins_get I.hok fH1
        obtain ⟨mB, J2, _⟩ := ins_get I.hok fH2
        obtain ⟨od, J, _⟩ := J.look
        obtain ⟨od2, J2, _⟩ := J2.look
        obtain ⟨m0, hF⟩ := I.fr
        show wpAny (model X.prog X.w) X.A (richCompare .NotEq (.ref a) (.ref a2)) (EP X pins σ Q) X.xe s
        refine ne_K hr.in1.room.units0 hF I.ok.mod.kin J J2 hm hs hfn hne ?_
        have rds : RDs X.K X.mg m H [p, q] [.ref a, .ref a2] := by
          simp only [RDs]
          exact ⟨_, _, rfl, rp, _, _, rfl, rq, rfl⟩
        have rvs : Vals [V.ref a, V.ref a2] [Value.ref a, Value.ref a2] := .cons rfl (.cons rfl .nil)
        have po' := Po.bind (rel := RD X.K X.mg) (po : Po X.K X.mg (RD X.K X.mg) m H ((f [p, q] h).st.bind _) Q fun _ _ _ => False)
        refine wpAny_mono (run_own (A := X.A.in1) F b hn hr.in1 rfl I rvs rl rds rfl po') (fun r s1 ⟨z, H1, I1, rz, m1, d, h1, e1, r1, rd, p1⟩ => ?_) fun _ _ z => z
        cases d with
        | bl b => simp only [RD] at rd; subst rd; obtain rfl : r = Value.bool b := rz; exact ⟨b, rfl, V.bl (!b), H1, I1, rfl, p1.ok r1 (by simp only [RD])⟩
        | _ => exact False.elim p1
      · exact po.elim
    · exact po.elim
  · exact (op_ne.or (op_neD hr.room.units)) pins s σ H x y v u Q I rx ry (g_ne m H h p q x y Q _ rl rp rq po)
  · exact po.elim
/-! ### len(x), x as a test -/
def lenR (r : R D) : R D := r.bind fun d h => match d with
  | .int n => if 0 ≤ n ∧ n < 2 ^ 63 then .ok (.int n) h else .no
  | _ => .no
def gLenO (t : Tbl) : VA := fun ds h => match ds with
  | [d] => match asIns d h with
    | some (c, _) => match t.lookup c with
      | some f => lenR (f [d] h).st
      | none => .no
    | none => gLen [d] h
  | _ => .no
def rdA (K : PySem.W.Frag) (mg : Str → Option Value) (g : VA) : List V → Hp → VK → Prop := fun vs H Q => ∃ m h ds, Rel K mg m H h ∧ RDs K mg m H ds vs ∧ ∃ Wx, Po K mg (RD K mg) m H (g ds h) Q Wx
theorem rdA_ok {K : PySem.W.Frag} {mg : Str → Option Value} {g : VA} : CallOk K mg g (rdA K mg g) := fun m H h ds vs Q Wx rl rd po => ⟨m, h, ds, rl, rd, Wx, po⟩
theorem lenR_st (r : R D) : (lenR r.st).st = lenR r.st := bind_st _ _ fun a h => by
  split
  · split <;> rfl
  · rfl
theorem len_own {pins : List (Addr × Obj)} {s : Shared} {σ : Sl} {H : Hp} {m : List Addr} {h : Hs} {d : D} {v : V} {u : Value} {c : Str} {fs : List (Str × D)} {f : Fs} {Q : VK} {Wx : XK} (o : OwnT X j "__len__" 1 t) (hr : RoomG (j + 1) X.A) (I : Inv X pins σ H s) (rv : RelV v u) (rl : Rel X.K X.mg m H h) (rd : RD X.K X.mg m H d v)
    (e : asIns d h = some (c, fs)) (hf : t.lookup c = some f) (po : Po X.K X.mg (RD X.K X.mg) m H (lenR (f [d] h).st) Q Wx) : ∃ (a C fa : Addr) (ox : Obj) (od : Option Obj) (m0 : Str → Option Value), u = .ref a ∧ X.mg c = some (.ref C) ∧ Fr X.base X.env.locals s.heap m0 ∧ PySem.W.InstAt s.heap a ox C od ∧ PySem.W.findIn X.K (.ref C) "__len__" = some (some (.ref fa)) ∧ PySem.W.isFn X.K (.ref fa) = true ∧
      wpAny (model X.prog X.w) X.A.in1 (call (.ref fa) [.ref a]) (PySem.W.LenBack fun v s' => ∃ n t, v = .int n t ∧ ∃ H', Inv X pins σ H' s' ∧ Q (.int n) H') X.xe s := by
  obtain ⟨C, fa, fd, ps, hC, hs, hfn, F, b, hn⟩ := (o.at hf).ex
  obtain ⟨a, C1, dx, ys, rfl, g1, fH1, _⟩ := asIns_ok rl rd e
  rw [hC] at g1
  cases g1
  obtain rfl : u = Value.ref a := rv
  obtain ⟨mA, J, _⟩ := ins_get I.hok fH1
  obtain ⟨od, J, _⟩ := J.look
  obtain ⟨m0, hF⟩ := I.fr
  refine ⟨a, C, fa, _, _, m0, rfl, hC, hF, J, hs, hfn, ?_⟩
  have rds : RDs X.K X.mg m H [d] [.ref a] := by
    simp only [RDs]
    exact ⟨_, _, rfl, rd, rfl⟩
  have rvs : Vals [V.ref a] [Value.ref a] := .cons rfl .nil
  have po' := Po.bind (rel := RD X.K X.mg) (po : Po X.K X.mg (RD X.K X.mg) m H ((f [d] h).st.bind _) Q Wx)
  refine wpAny_mono (run_own (A := X.A.in1) F b hn hr.in1 rfl I rvs rl rds rfl po') (fun r s1 ⟨z, H1, I1, rz, m1, d, h1, e1, r1, rd, p1⟩ => ?_) fun _ _ z => z
  cases d with
  | int n =>
    simp only [RD] at rd
    subst rd
    obtain ⟨tk, rfl⟩ := (show ∃ tk, r = Value.int n tk from rz)
    have p2 : Po X.K X.mg (RD X.K X.mg) m1 H1 (if 0 ≤ n ∧ n < 2 ^ 63 then R.ok (D.int n) h1 else R.no) Q Wx := p1
    by_cases hz : 0 ≤ n ∧ n < 2 ^ 63
    · rw [if_pos hz] at p2
      exact ⟨hz, n, _, rfl, H1, I1.tok _, p2.ok r1 (by simp only [RD])⟩
    · rw [if_neg hz] at p2
      exact p2.elim
  | _ => exact False.elim p1
theorem call_lenO (o : OwnT X j "__len__" 1 t) (hr : RoomG (j + 1) X.A) : CallR X (.builtin "len") (rdA X.K X.mg (gLenO t)) := by
  intro pins s σ H xs us Q I rv ⟨m, h, ds, rl, rd, Wx, po⟩
  unfold gLenO at po
  split at po
  · rename_i d
    obtain ⟨v, rfl, rd1⟩ := rd.one
    obtain ⟨u, rfl, ru⟩ := rv.one
    split at po
    · rename_i c fs e
      split at po
      · rename_i f hf
        obtain ⟨a, C, fa, ox, od, m0, rfl, hC, hF, J, hs, hfn, hw⟩ := len_own o hr I ru rl rd1 e hf po
        exact PySem.W.len_K hF I.ok.mod.kin J hs hfn (wpAny_mono hw (fun r s1 z => by
          cases r with
          | int n tk => obtain ⟨z1, n', t', e', H1, I1, q⟩ := z; cases e'; exact ⟨z1, V.int n, H1, I1, ⟨_, rfl⟩, q⟩
          | _ => exact z.elim) fun _ _ z => z)
      · exact po.elim
    · exact (call_len.or call_lenD) pins s σ H _ _ Q I rv (g_len m H h _ _ Q _ rl rd po)
  · exact po.elim
def truO (t : Tbl) (d : D) (h : Hs) : R Bool := match asIns d h with
  | some (c, _) => match t.lookup c with
    | some f => (lenR (f [d] h).st).bind fun d h => match d with
      | .int n => .ok (n != 0) h
      | _ => .no
    | none => .no
  | none => truR d h
def sTruO (t : Tbl) (f : SE) : ST := fun ρ h => (f ρ h).bind (truO t)
theorem rt_valO {a : Expr} {fa : SE} (o : OwnT X j "__len__" 1 t) (on : ∀ p ∈ t, OwnN X p.1) (hr : RoomG (j + 1) X.A) (ha : RE X a fa) (he : ∀ whole, isTrue a X.env whole = (do let v ← whole; standAt a.pos; holding [v] (truthy v)) := by exact fun _ => rfl) : RT X a (sTruO t fa) :=
  ⟨fun W tk => ⟨fun pins s σ H Q I ⟨m, ρ, h, rl, en, p⟩ => by
    refine isTrue_plain (thn ((ha.run W tk).run pins s σ H _ I ⟨m, ρ, h, rl, en, p.bind⟩) fun u s1 ⟨x, H1, I1, rx, m1, d, h1, e1, r1, rd, p1⟩ => ?_) (he _)
    unfold truO at p1
    split at p1
    · rename_i c fs e
      split at p1
      · rename_i f hf
        have p2 := Po.bind (rel := RD X.K X.mg) p1
        obtain ⟨a, C, fa, ox, od, m0, rfl, hC, hF, J, hs, hfn, hw⟩ := len_own o hr I1 rx r1 rd e hf p2
        refine truthy_len_K hF I1.ok.mod.kin J ((on (_, f) (PySem.mem_of_lookup hf)).ex C hC).2.2 hs hfn (wpAny_mono hw (fun r s2 z => ?_) fun _ _ z => z)
        cases r with
        | int n tk =>
          obtain ⟨z1, n', t', e', H2, I2, m2, d2, h2, e2, r2, rd2, q⟩ := z
          cases e'
          refine ⟨z1, n, _, rfl, H2, I2, ?_⟩
          cases d2 with
          | int n2 => simp only [RD] at rd2; cases rd2; exact q.ok r2 rfl
          | _ => exact False.elim q
        | _ => exact z.elim
      · exact p1.elim
    · unfold truR at p1
      split at p1
      · rename_i b hb
        exact tru_ok _ _ _ _ _ _ _ I1 rx ⟨b, truD_ok r1 rd hb, p1.ok r1 rfl⟩
      · exact p1.elim⟩⟩
/-! ### as expressions -/
section
variable {a b e : Expr} {es : List Expr} {pos p : Pos} {fa fb : SE} {faa : SA}
theorem re_eqO (o : OwnT X j "__eq__" 2 t) (hr : RoomG j X.A) (ha : RE X a fa) (hb : RE X b fb) : RE X (.Compare a [.Eq] [b] pos) (sBin (gEqO t) fa fb) := re_cmp (op_eqO o hr) (op2_rd (gEqO_st t)) ha hb
theorem rt_eqO (o : OwnT X j "__eq__" 2 t) (hr : RoomG j X.A) (ha : RE X a fa) (hb : RE X b fb) : RT X (.Compare a [.Eq] [b] pos) (sTB (sBin (gEqO t) fa fb)) := rt_cmp (op_eqO o hr) (op2_rd (gEqO_st t)) ha hb
theorem re_neO (o : OwnT X j "__eq__" 2 t) (on : ∀ p ∈ t, OwnN X p.1) (hr : RoomG (j + 1) X.A) (ha : RE X a fa) (hb : RE X b fb) : RE X (.Compare a [.NotEq] [b] pos) (sBin (gNeO t) fa fb) := re_cmp (op_neO o on hr) (op2_rd (gNeO_st t)) ha hb
theorem rt_neO (o : OwnT X j "__eq__" 2 t) (on : ∀ p ∈ t, OwnN X p.1) (hr : RoomG (j + 1) X.A) (ha : RE X a fa) (hb : RE X b fb) : RT X (.Compare a [.NotEq] [b] pos) (sTB (sBin (gNeO t) fa fb)) := rt_cmp (op_neO o on hr) (op2_rd (gNeO_st t)) ha hb
theorem rb_lenO (o : OwnT X j "__len__" 1 t) (hr : RoomG (j + 1) X.A) (hg : Gl X "len") (hm : X.mg "len" = none) (ha : RA X (e :: es) faa) (he : starEach (e :: es) X.env = (false, eval e X.env) :: starEach es X.env := by rfl) (hpl : (backTo pos (starEach es X.env)).any (·.1) = false := by rfl) :
    RE X (.Call (.Name "len" p) (e :: es) [] pos) (sCallB (gLenO t) faa) := re_callB (call_lenO o hr) rdA_ok hg hm (by decide +kernel) ha (by decide) (by decide) he hpl
end
end
end G

/-! G13: repr of data, order of data, bindings by name, o.f, o.g = .. -/
namespace G
open PySem PySem.Spec PyProof.Rows L2
/-! ### repr -/
def okShow (p : PyData) : Bool := isDisplay p && p.showable && !p.hasDict && decide (p.depth ≤ 40) && decide (p.shown.length ≤ sizeLine)
def gRepr : VA := fun ds h => match ds with
  | [d] => match toPh d h with
    | some p => if okShow p = true then .ok (.str p.shown) h else .no
    | none => .no
  | _ => .no
def rRepr (K : PySem.W.Frag) : List V → Hp → VK → Prop := fun xs H Q => ∃ x p, xs = [x] ∧ Dp K H x p ∧ okShow p = true ∧ Q (.str p.shown) H
theorem g_repr {K : PySem.W.Frag} {mg : Str → Option Value} : CallOk K mg gRepr (rRepr K) := by
  intro m H h ds vs Q Wx rl rd po
  unfold gRepr at po
  split at po
  · obtain ⟨v, rfl, r⟩ := rd.one
    split at po
    · rename_i p hp
      split at po
      · rename_i hs
        exact ⟨v, p, rfl, toPh_ok rl r hp, hs, po.ok rl (by simp only [RD])⟩
      · exact po.elim
    · exact po.elim
  · exact po.elim
section
variable {X : Cx} {j k n : Nat}
theorem call_reprD (hr : RmG X.A) : CallR X (.builtin "repr") (rRepr X.K) := by
  intro pins s σ H xs us Q I rv ⟨x, p, e, d, ok, q⟩
  subst e
  obtain ⟨u, rfl, ru⟩ := rv.one
  obtain ⟨as, rd⟩ := Dp.reads I p x u d ru
  simp only [okShow, Bool.and_eq_true, decide_eq_true_eq, Bool.not_eq_true'] at ok
  obtain ⟨⟨⟨⟨o1, o2⟩, o3⟩, o4⟩, o5⟩ := ok
  obtain ⟨a, rfl⟩ := isRef_of_reads rd o1
  have hu := hr.un
  exact repr_of_reads' rd o2 (PyData.noDict_hsm o3) hr.gd (by omega) (fun _ _ z => z) (fun h' t tk kp => ⟨V.str p.shown, H, I.kept kp, ⟨t, rfl⟩, q⟩) o5
theorem rb_repr {e : Expr} {es : List Expr} {p pos : Pos} {fa : SA} (hr : RmG X.A) (hg : Gl X "repr") (hm : X.mg "repr" = none) (ha : RA X (e :: es) fa) (he : starEach (e :: es) X.env = (false, eval e X.env) :: starEach es X.env := by rfl) (hpl : (backTo pos (starEach es X.env)).any (·.1) = false := by rfl) :
    RE X (.Call (.Name "repr" p) (e :: es) [] pos) (sCallB gRepr fa) := re_callB (call_reprD hr) g_repr hg hm (by decide +kernel) ha (by decide) (by decide) he hpl
end
/-! ### order of data -/
def okOrd (a b : PyData) : Bool := PySem.W.alike a b && isDisplay a && decide (a.depth ≤ 60)
def gOrdA (fi : Int → Int → Bool) (fs : Str → Str → Bool) (fd : PyData → PyData → Bool) : V2 := fun p q h => match p, q with
  | .int i, .int j => .ok (.bl (fi i j)) h
  | .str i, .str j => .ok (.bl (fs i j)) h
  | _, _ => match toPh p h, toPh q h with
    | some a, some b => if okOrd a b = true then .ok (.bl (fd a b)) h else .no
    | _, _ => .no
abbrev rOrdD (K : PySem.W.Frag) (fd : PyData → PyData → Bool) : R2 := fun x y H Q => ∃ a b, Dp K H x a ∧ Dp K H y b ∧ okOrd a b = true ∧ Q (.bl (fd a b)) H
theorem g_ordA {K : PySem.W.Frag} {mg : Str → Option Value} {fi : Int → Int → Bool} {fs : Str → Str → Bool} {fd : PyData → PyData → Bool} : Op2 K mg (gOrdA fi fs fd) (fun x y H Q => rOrd fi fs x y H Q ∨ rOrdD K fd x y H Q) := by
  intro m H h p q x y Q Wx rl rp rq po
  unfold gOrdA at po
  split at po
  · simp only [RD] at rp rq; subst rp rq
    exact .inl (.inl ⟨_, _, rfl, rfl, po.ok rl (by simp only [RD])⟩)
  · simp only [RD] at rp rq; subst rp rq
    exact .inl (.inr ⟨_, _, rfl, rfl, po.ok rl (by simp only [RD])⟩)
  · split at po
    · rename_i a b ha hb
      split at po
      · rename_i ho
        exact .inr ⟨a, b, toPh_ok rl rp ha, toPh_ok rl rq hb, ho, po.ok rl (by simp only [RD])⟩
      · exact po.elim
    · exact po.elim
abbrev gLtA : V2 := gOrdA (fun i j => decide (i < j)) (fun i j => decide (i.cps.toList < j.cps.toList)) fun a b => PySem.W.dataLt a b
abbrev gLeA : V2 := gOrdA (fun i j => decide (i ≤ j)) (fun i j => !decide (j.cps.toList < i.cps.toList)) fun a b => !PySem.W.dataLt b a
abbrev gGtA : V2 := gOrdA (fun i j => decide (j < i)) (fun i j => decide (j.cps.toList < i.cps.toList)) fun a b => PySem.W.dataLt b a
abbrev gGeA : V2 := gOrdA (fun i j => decide (j ≤ i)) (fun i j => !decide (i.cps.toList < j.cps.toList)) fun a b => !PySem.W.dataLt a b
section
variable {X : Cx} {j k n : Nat}
theorem okOrd_ok {a b : PyData} (h : okOrd a b = true) : PySem.W.alike a b = true ∧ a ≠ .none ∧ min a.depth b.depth ≤ 60 := by
  simp only [okOrd, Bool.and_eq_true, decide_eq_true_eq] at h
  refine ⟨h.1.1, fun e => ?_, ?_⟩
  · subst e; exact absurd h.1.2 (by decide)
  · have := h.2; omega
theorem op_ltDt (hr : Rm X.A) : OpR X (compareOp .Lt) (rOrdD X.K fun a b => PySem.W.dataLt a b) := by
  intro pins s σ H x y v u Q I rx ry ⟨a, b, da, db, ho, q⟩
  obtain ⟨as, r1⟩ := Dp.reads I a x v da rx
  obtain ⟨bs, r2⟩ := Dp.reads I b y u db ry
  obtain ⟨o1, o2, o3⟩ := okOrd_ok ho
  have hu := hr.un
  exact PySem.W.lt_data r1 r2 o1 o2 (by omega) ⟨V.bl _, H, I, rfl, q⟩
theorem op_gtDt (hr : Rm X.A) : OpR X (compareOp .Gt) (rOrdD X.K fun a b => PySem.W.dataLt b a) := by
  intro pins s σ H x y v u Q I rx ry ⟨a, b, da, db, ho, q⟩
  obtain ⟨as, r1⟩ := Dp.reads I a x v da rx
  obtain ⟨bs, r2⟩ := Dp.reads I b y u db ry
  obtain ⟨o1, o2, o3⟩ := okOrd_ok ho
  have hu := hr.un
  exact PySem.W.gt_data r1 r2 o1 o2 (by omega) ⟨V.bl _, H, I, rfl, q⟩
theorem op_leDt (hr : Rm X.A) : OpR X (compareOp .LtE) (rOrdD X.K fun a b => !PySem.W.dataLt b a) := by
  intro pins s σ H x y v u Q I rx ry ⟨a, b, da, db, ho, q⟩
  obtain ⟨as, r1⟩ := Dp.reads I a x v da rx
  obtain ⟨bs, r2⟩ := Dp.reads I b y u db ry
  obtain ⟨o1, o2, o3⟩ := okOrd_ok ho
  have hu := hr.un
  exact PySem.W.le_data r1 r2 o1 o2 (by omega) ⟨V.bl _, H, I, rfl, q⟩
theorem op_geDt (hr : Rm X.A) : OpR X (compareOp .GtE) (rOrdD X.K fun a b => !PySem.W.dataLt a b) := by
  intro pins s σ H x y v u Q I rx ry ⟨a, b, da, db, ho, q⟩
  obtain ⟨as, r1⟩ := Dp.reads I a x v da rx
  obtain ⟨bs, r2⟩ := Dp.reads I b y u db ry
  obtain ⟨o1, o2, o3⟩ := okOrd_ok ho
  have hu := hr.un
  exact PySem.W.ge_data r1 r2 o1 o2 (by omega) ⟨V.bl _, H, I, rfl, q⟩
variable {a b : Expr} {pos : Pos} {fa fb : SE}
theorem rt_ltA (hr : Rm X.A) (ha : RE X a fa) (hb : RE X b fb) : RT X (.Compare a [.Lt] [b] pos) (sTB (sBin gLtA fa fb)) := rt_cmp ((op_lt.or op_lt_str).or (op_ltDt hr)) g_ordA ha hb
theorem rt_leA (hr : Rm X.A) (ha : RE X a fa) (hb : RE X b fb) : RT X (.Compare a [.LtE] [b] pos) (sTB (sBin gLeA fa fb)) := rt_cmp ((op_le.or op_le_str).or (op_leDt hr)) g_ordA ha hb
theorem rt_gtA (hr : Rm X.A) (ha : RE X a fa) (hb : RE X b fb) : RT X (.Compare a [.Gt] [b] pos) (sTB (sBin gGtA fa fb)) := rt_cmp ((op_gt.or op_gt_str).or (op_gtDt hr)) g_ordA ha hb
theorem rt_geA (hr : Rm X.A) (ha : RE X a fa) (hb : RE X b fb) : RT X (.Compare a [.GtE] [b] pos) (sTB (sBin gGeA fa fb)) := rt_cmp ((op_ge.or op_ge_str).or (op_geDt hr)) g_ordA ha hb
end
/-! ### bindings by name -/
def pick {α : Type} (is : List Nat) (l : List α) : List α := is.filterMap fun i => l[i]?
theorem pick_vals {is : List Nat} {vs : List V} {us : List Value} (r : Vals vs us) : Vals (pick is vs) (pick is us) := by
  unfold pick
  induction is with
  | nil => exact .nil
  | cons i is ih =>
    cases e : vs[i]? with
    | none =>
      have e2 : us[i]? = none := by
        rw [List.getElem?_eq_none_iff] at e ⊢
        rw [← r.length]; exact e
      simpa only [List.filterMap_cons, e, e2] using ih
    | some v =>
      obtain ⟨u, e2, ru⟩ := r.get e
      simpa only [List.filterMap_cons, e, e2] using Paired.cons ru ih
theorem pick_rds {K : PySem.W.Frag} {mg : Str → Option Value} {m : List Addr} {H : Hp} {is : List Nat} {ds : List D} {vs : List V} (r : RDs K mg m H ds vs) : RDs K mg m H (pick is ds) (pick is vs) := by
  unfold pick
  induction is with
  | nil => simp only [List.filterMap_nil, RDs]
  | cons i is ih =>
    cases e : ds[i]? with
    | none =>
      have e2 : vs[i]? = none := by
        rw [List.getElem?_eq_none_iff] at e ⊢
        rw [← r.len]; exact e
      simpa only [List.filterMap_cons, e, e2] using ih
    | some d =>
      obtain ⟨v, e2, rv⟩ := r.get e
      simp only [List.filterMap_cons, e, e2, RDs]
      exact ⟨_, _, rfl, rv, ih⟩
theorem RDs.app {K : PySem.W.Frag} {mg : Str → Option Value} {m : List Addr} {H : Hp} : ∀ {ds es : List D} {vs ws : List V}, RDs K mg m H ds vs → RDs K mg m H es ws → RDs K mg m H (ds ++ es) (vs ++ ws)
  | [], es, vs, ws, r, r2 => by simp only [RDs] at r; subst r; exact r2
  | d :: ds, es, vs, ws, r, r2 => by
    simp only [RDs] at r
    obtain ⟨v, vr, rfl, h1, h2⟩ := r
    simp only [List.cons_append, RDs]
    exact ⟨_, _, rfl, h1, RDs.app h2 r2⟩
/-- positional values, keyword-only defaults that lack, the keywords' values -/
def gKw (is : List Nat) (msD : List D) : List D → List D → List D := fun ds es => pick is (ds ++ (msD ++ es))
section
variable {K : PySem.W.Frag} {mg : Str → Option Value} {x qual : Str} {params : Arguments} {body : List Stmt} {scope : Scope} {kws : List (Str × V)} {f : Addr} {fd : FuncData} {ps : List Str}
theorem dbn_kw (F : FunD K x qual params body scope [] kws f fd) (n : Nat) (ks : List Str) (ms : List (Str × V)) (msD : List D) (is : List Nat) (hk : kws ≠ []) (hms : ∀ q ∈ ms, q ∈ kws) (hD : ∀ m H, RDs K mg m H msD (ms.map (·.2)))
    (h : ∀ (D : Addr) (doc pm : Value) (an : Option Addr) (cdv ct : Value) (us mv ws : List Value), us.length = n → mv.length = ms.length → ws.length = ks.length →
      KwChain D ((ms.map (·.1)).zip mv) (bindArgs (PySem.W.fnOf x qual params body scope .none (.ref D) doc pm an cdv ct) ⟨us, ks.zip ws⟩) (ps.zip (pick is (us ++ (mv ++ ws))))) : DBn K mg fd ps n ks (gKw is msD) := by
  obtain ⟨mv, kb⟩ := F.kbinds0 n ks ms (fun us mv ws => pick is (us ++ (mv ++ ws))) hk hms (fun r1 r2 r3 => pick_vals (r1.append (r2.append r3))) h
  exact ⟨_, _, kb, fun m H ds vs es zs _ _ r1 r2 => pick_rds (r1.app ((hD m H).app r2))⟩
theorem dbn_nm (F : FunD K x qual params body scope [] kws f fd) (n : Nat) (ks : List Str) (is : List Nat)
    (h : ∀ (kV doc pm : Value) (an : Option Addr) (cdv ct : Value) (us ws : List Value), us.length = n → ws.length = ks.length → bindArgs (PySem.W.fnOf x qual params body scope .none kV doc pm an cdv ct) ⟨us, ks.zip ws⟩ = pure (ps.zip (pick is (us ++ ws)))) : DBn K mg fd ps n ks (gKw is []) := by
  obtain ⟨oc, od, dV, kV, doc, pm, an, cdv, ct, osl, rfl, lk, hcd, hD, hK⟩ := F.ex
  rcases hD with ⟨_, rfl⟩ | ⟨e, _⟩
  · exact ⟨fun us ws => pick is (us ++ ws), fun vs zs => pick is (vs ++ zs), ⟨fun s us ws X l1 l2 => .of_eq (h kV doc pm an cdv ct us ws l1 l2), fun r1 r2 => pick_vals (r1.append r2)⟩, fun m H ds vs es zs _ _ r1 r2 => pick_rds (r1.app (by simpa using r2))⟩
  · exact absurd rfl e
end
/-! ### o.f, o.g = a tuple -/
def hNil : List D → Ev → Hs → Option Hs := fun ds _ h => match ds with
  | [] => some h
  | _ => none
def hCons (cs : List Str) (f : Str) (fo : SE) (g : List D → Ev → Hs → Option Hs) : List D → Ev → Hs → Option Hs := fun ds ρ h => match ds with
  | v :: r => match fo ρ h with
    | .ok o h1 => match mutI o h1 with
      | some (n, c, fs) => if c ∈ cs ∧ fs.length < 900 then g r ρ (h1.set n (.ins c (putFD f v fs))) else none
      | none => none
    | _ => none
  | _ => none
def sAsgF (f : SE) (n : Nat) (g : List D → Ev → Hs → Option Hs) : SS := fun ρ h => (f ρ h).toS ρ fun d h1 => match d with
  | .tup ds => if ds.length = n then match g ds ρ h1 with
    | some h2 => .nx ρ h2
    | none => .no else .no
  | _ => .no
structure THs (X : Cx) (es : List Expr) (g : List D → Ev → Hs → Option Hs) : Prop where
  run : ∃ t : TGs, PGs X es t ∧ ∀ (m : List Addr) (H : Hp) (h h' : Hs) (ρ : Ev) (σ : Sl) (ds : List D) (vs : List V) (Q : Sl → Hp → Prop), Rel X.K X.mg m H h → REnv X.K X.mg m H ρ σ → RDs X.K X.mg m H ds vs → g ds ρ h = some h' →
    (∀ m' H' σ', Ext m H m' H' → Rel X.K X.mg m' H' h' → REnv X.K X.mg m' H' ρ σ' → Q σ' H') → t vs σ H Q
theorem ths_nil {X : Cx} : THs X [] hNil := ⟨gNil, pgs_nil, fun m H h h' ρ σ ds vs Q rl en rd e q => by
  unfold hNil at e
  split at e
  · cases e
    simp only [RDs] at rd
    exact ⟨rd, q m H σ (Ext.refl _ _) rl en⟩
  · cases e⟩
/-- o.f = .. among targets -/
def gFldT (K : PySem.W.Frag) (te : TE) (f : Str) : TG := fun v σ H Q => te σ H fun x H1 => ∃ a C dx fs, x = .ref a ∧ H1 a = some (.ins C dx fs) ∧ Cls K C ∧ NoAttr K C f ∧ fs.length < 1000 ∧ Q σ (upd H1 a (.ins C dx (putF f v fs)))
theorem pg_fldT {X : Cx} {o : Expr} {f : Str} {pos : Pos} {te : TE} (ho : PE X o te) : PG X (.Attribute o f pos) (gFldT X.K te f) :=
  ⟨fun pins s σ H v u Q I r h => by
    rw [assign_Attribute]
    refine wpAny_bind (wpAny_holding (wpAny_mono (ho.run pins s σ H _ I h) (fun w s1 ⟨x, H1, I1, rx, a, C, dx, fs, e, g, c, na, l, q⟩ => ?_) fun _ _ z => z))
    subst e
    obtain rfl : w = Value.ref a := rx
    refine wpAny_bind (wpAny_standAt ?_)
    refine wpAny_bind (wpAny_holding (setattr_ok I1 g c na l r fun s2 I2 => ?_))
    exact wpAny_release ⟨σ, _, I2, q⟩⟩
theorem ths_cons {X : Cx} {o : Expr} {f : Str} {pos : Pos} {es : List Expr} {fo : SE} {cs : List Str} {g : List D → Ev → Hs → Option Hs} (hf : FldOk X.K X.mg cs f) (ho : RE X o fo) (hs : THs X es g)
    (ha : (assignEach (.Attribute o f pos :: es) X.env).map (·.2) = assign (.Attribute o f pos) X.env :: (assignEach es X.env).map (·.2) := by rfl) : THs X (.Attribute o f pos :: es) (hCons cs f fo g) := by
  obtain ⟨t, ht, hq⟩ := hs.run
  have tk : Takes X (fun _ _ _ _ => False) := fun u s' ⟨_, _, _, _, _, _, _, _, _, _, _, _, _, _, _, _, w⟩ => w.elim
  refine ⟨gCons (gFldT X.K (LE X.K X.mg (fun _ _ _ _ => False) fo) f) t, pgs_cons (pg_fldT (ho.run _ tk)) ht ha, fun m H h h' ρ σ ds vs Q rl en rd e q => ?_⟩
  unfold hCons at e
  split at e
  · rename_i v r
    simp only [RDs] at rd
    obtain ⟨v', vr, rfl, rv, rr⟩ := rd
    split at e
    · rename_i d h1 hfo
      split at e
      · rename_i n c fs hm
        split at e
        · rename_i hc
          refine ⟨v', vr, rfl, m, ρ, h, rl, en, ?_⟩
          rw [hfo]
          intro m1 H1 b e1 r1 rb
          obtain ⟨a, C, dx, ys, rfl, ha, gC, fH, rf⟩ := mutI_ok r1 rb hm
          obtain ⟨k1, k2⟩ := hf c hc.1 C gC
          have ew : Ext m1 H1 m1 (upd H1 a (.ins C dx (putF f v' ys))) := Ext.write (List.mem_of_getElem? ha)
          refine ⟨a, C, dx, ys, rfl, fH, k1, k2, by have := rf.len; omega, ?_⟩
          exact hq m1 _ _ h' ρ σ r vr Q (r1.write (u := .ins _ _) ha ⟨C, dx, _, gC, upd_same, RDf.ext ew _ _ (putFD_ok (RD.ext e1 _ _ rv) rf)⟩) ((en.ext e1).ext ew) (RDs.ext ew _ _ (RDs.ext e1 _ _ rr)) e
            fun m' H' σ' ex rl' en' => q m' H' σ' ((e1.trans ew).trans ex) rl' en'
        · cases e
      · cases e
    · cases e
  · cases e
theorem rs_asgF {X : Cx} {es : List Expr} {e : Expr} {k n : Nat} {p pos : Pos} {fe : SE} {g : List D → Ev → Hs → Option Hs} (hc : X.calm = true) (he : RE X e fe) (ht : THs X es g) (hs : swapsWithSole [.Tuple es k p] e pos.line X.env = pure false := by rfl) (hw : swappedStores [.Tuple es k p] e X.env = pure none := by rfl)
    (h1 : (assignEach [.Tuple es k p] X.env).map (·.2) = [assign (.Tuple es k p) X.env] := by rfl) (hn : (assignEach es X.env).length = n := by rfl) (hst : (assignEach es X.env).findIdx? (·.1) = none := by rfl) : RSt X (.Assign [.Tuple es k p] e pos) (sAsgF fe n g) := by
  obtain ⟨t, hp, hq⟩ := ht.run
  exact ⟨fun W tk => ps_imp (ps_asg (he.run W tk) (pg_tup hc hp hn hst) hs hw h1) fun D σ H ⟨m, ρ, h, rl, en, p⟩ => ⟨m, ρ, h, rl, en, (p.toS en).mono (fun x H1 ⟨m1, d, h1, e1, r1, ra, p1⟩ => by
    split at p1
    · rename_i ds
      split at p1
      · rename_i hl
        split at p1
        · rename_i h2 hg
          simp only [RD] at ra
          obtain ⟨a, xs, rfl, fz, rs⟩ := ra
          exact ⟨a, xs, rfl, fz.sq, by rw [← rs.len]; exact hl, hq m1 H1 h1 h2 ρ σ ds xs _ r1 (en.ext e1) rs hg fun m' H' σ' ex rl' en' => (p1.ext ex).nx rl' en'⟩
        · exact p1.elim
      · exact p1.elim
    · exact p1.elim) fun _ _ _ z => z⟩⟩
end G

/-! G14: the facts of a program's top. -/
namespace G
open PySem PySem.Spec PyProof.Rows L2
/-- the keyword-only default k of the function at p, if it is an object -/
def kwdAt (p : Str × Option Str) (k : Str) (K : PySem.W.Frag) : Addr := match K.lookup (He.fAd K p) with
  | some ⟨_, _, .func fd, _⟩ => (match fd.kwdefaults with
    | .ref T => (match PySem.W.nsIn K T k with
      | some (some (.ref a)) => a
      | _ => 0)
    | _ => 0)
  | _ => 0
/-- the object at a is the empty tuple -/
def emtB (K : PySem.W.Frag) (a : Addr) : Bool := match K.lookup a with
  | some ⟨.type c, _, .seq its _, _⟩ => decide (c = "tuple") && its.isEmpty
  | _ => false
theorem emtB_ok {K : PySem.W.Frag} {a : Addr} (h : emtB K a = true) : KT K a [] := by
  unfold emtB at h
  split at h
  · rename_i c od its n sl e
    simp only [Bool.and_eq_true, decide_eq_true_eq] at h
    obtain ⟨rfl, h2⟩ := h
    obtain rfl : its = #[] := by simpa using h2
    exact ⟨_, #[], n, e, rfl, rfl, by simp, .nil⟩
  · cases h
/-- a class that is named: the text's own, a built-in one -/
inductive KN where
  | o (c : Str) | b (s : String) (c : Str)
def KN.n : KN → Str
  | .o c => c
  | .b _ c => c
def KN.v (K : PySem.W.Frag) : KN → Value
  | .o c => .ref (He.ga K c)
  | .b s _ => .type s
def xNew : Nat → String
  | 0 => "ValueError.__new__"
  | 1 => "LookupError.__new__"
  | _ => "ArithmeticError.__new__"
def xTail : Nat → List Value
  | 0 => [.type "ValueError", .type "Exception", .type "BaseException", .type "object"]
  | 1 => [.type "LookupError", .type "Exception", .type "BaseException", .type "object"]
  | _ => [.type "ArithmeticError", .type "Exception", .type "BaseException", .type "object"]
open PySem.W in
def xcB (K : PySem.W.Frag) (C : Addr) (b : Nat) : Bool := excInitIn K C (xTail b) (xNew b) && (excOver K C (xTail b) && (hasDictIn K C && (decide (findIn K (.ref C) "__setattr__" = some (some (.builtin "object.__setattr__"))) && (decide (subIn K (.ref C) (.type "BaseException") = some true) && (decide (typeIn K (.ref C) = some (.type "type")) && keepIn K (.ref C))))))
open PySem.W in
def xkB (K : PySem.W.Frag) (C : Addr) : Bool := decide (findIn K (.ref C) "__getattribute__" = some (some (.builtin "BaseException.__getattribute__"))) && (decide (findIn K (.ref C) "__getattr__" = some none) && (decide (subIn K (.ref C) (.type "BaseException") = some true) && (hasDictIn K C && (decide (findIn K (.ref C) "__class__" = some (some (.builtin "object.__class__"))) &&
  (decide (specialIn K (.builtin "object.__class__") "__get__" = some (some (.builtin "getset_descriptor.__get__"))) && (decide (takesIn K (.builtin "object.__class__") = some true) && decide (mroIn K C (.type "object") = some true)))))))
inductive Fb where
  | fa (f : He.Fa)
  | fld (cs : List Str) (f : Str)
  | isf (cs : List Str)
  | own (c : Str)
  | emk (p : Str × Option Str) (k : Str)
  | emd (p : Str × Option Str) (i : Nat)
  | xc (c : Str) (b : Nat)
  | xi (c f : Str)
  | ism (anc : List (Str × List Str)) (ks : List KN)
  | exm (anc : List (Str × List Str)) (ks : List Str)
  | xf (cs : List Str) (f : Str)
  | nf (cs : List Str)
/-- no class of these is under another, nor is a built-in type -/
def nfB (K : PySem.W.Frag) (cs : List Str) : Bool := cs.all fun c => (cs.all fun c' => PySem.W.notFirst K (He.ga K c) (.ref (He.ga K c'))) && tyNames.all fun n => PySem.W.notFirst K (He.ga K c) (.type n) && decide (PySem.W.subIn K (.ref (He.ga K c)) (.type n) = some false)
def insB (K : PySem.W.Frag) (C : Addr) : Bool := decide (PySem.W.findIn K (.ref C) "__class__" = some (some (.builtin "object.__class__"))) && (decide (PySem.W.specialIn K (.builtin "object.__class__") "__get__" = some (some (.builtin "getset_descriptor.__get__"))) && (decide (PySem.W.takesIn K (.builtin "object.__class__") = some true) && decide (PySem.W.mroIn K C (.type "object") = some true)))
def isfB (K : PySem.W.Frag) (cs : List Str) : Bool := cs.all fun c => (He.Fa.cls c).ok K && (insB K (He.ga K c) && ((cs.all fun c' => decide (PySem.W.kitOne K (.ref (He.ga K c)) (.ref (He.ga K c')) = some (decide (c = c')))) && tyNames.all fun n => decide (PySem.W.kitOne K (.ref (He.ga K c)) (.type n) = some false) && decide (PySem.W.kitOne K (.type n) (.ref (He.ga K c)) = some false)))
def Fb.ok (K : PySem.W.Frag) : Fb → Bool
  | .fa f => f.ok K
  | .fld cs f => cs.all fun c => (He.Fa.glo c).ok K && ((He.Fa.cls c).ok K && (He.Fa.noat c f).ok K)
  | .isf cs => (cs.all fun c => (He.Fa.glo c).ok K) && isfB K cs
  | .own c => (He.Fa.glo c).ok K && (decide (PySem.W.mroIn K (He.ga K c) (.type "object") = some true) && (decide (PySem.W.findIn K (.ref (He.ga K c)) "__ne__" = some (some (.builtin "object.__ne__"))) && decide (PySem.W.findIn K (.ref (He.ga K c)) "__bool__" = some none)))
  | .emk p k => emtB K (kwdAt p k K)
  | .emd p i => emtB K (He.dflAt p i K)
  | .xc c b => xcB K (He.ga K c) b
  | .xi c f => decide (PySem.W.findIn K (.ref (He.ga K c)) "__init__" = some (some (.ref (He.fAd K (c, some "__init__"))))) && (decide (PySem.W.typeIn K (.ref (He.fAd K (c, some "__init__"))) = some (.type "function")) && decide (PySem.W.findIn K (.ref (He.ga K c)) f = some none))
  | .ism anc ks => anc.all fun p => (He.Fa.glo p.1).ok K && (xkB K (He.ga K p.1) && decide (PySem.W.kitAny K (.ref (He.ga K p.1)) (ks.map (KN.v K)) = some ((ks.map KN.n).any fun k => p.2.contains k)))
  | .exm anc ks => anc.all fun p => (He.Fa.glo p.1).ok K && (decide (PySem.W.exmAny K (.ref (He.ga K p.1)) (ks.map fun k => .ref (He.ga K k)) = some (ks.any fun k => p.2.contains k)) &&
      (ks.all fun k => decide (PySem.W.exmOne K (.ref (He.ga K p.1)) (.ref (He.ga K k)) = some ([k].any fun k => p.2.contains k))))
  | .xf cs f => cs.all fun c => (He.Fa.glo c).ok K && (xkB K (He.ga K c) && decide (PySem.W.findIn K (.ref (He.ga K c)) f = some none))
  | .nf cs => (cs.all fun c => (He.Fa.glo c).ok K) && nfB K cs
/-- what stands behind the top -/
structure Fc (fbs : List Fb) (fn : List He.DefD) (K : PySem.W.Frag) (mg : Str → Option Value) : Prop where
  hp : ∃ h : Heap, K.In h ∧ h.Ns mainGlobals mg
  d : He.SaysD [] fn K
  x : (fbs.all fun f => f.ok K) = true
section
variable {fbs : List Fb} {fn : List He.DefD} {K : PySem.W.Frag} {mg : Str → Option Value}
theorem Fc.at (F : Fc fbs fn K mg) (i : Nat) {f : Fb} (h : fbs[i]? = some f := by rfl) : f.ok K = true := List.all_eq_true.mp F.x f (List.mem_of_getElem? h)
theorem Fc.glo (F : Fc fbs fn K mg) (i : Nat) {x : Str} (h : fbs[i]? = some (.fa (.glo x)) := by rfl) : mg x = some (.ref (He.ga K x)) := by
  obtain ⟨_, X, G⟩ := F.hp
  exact He.glo_ok X G (F.at i h)
theorem Fc.free (F : Fc fbs fn K mg) (i : Nat) {x : Str} (h : fbs[i]? = some (.fa (.free x)) := by rfl) : mg x = none := by
  obtain ⟨_, X, G⟩ := F.hp
  exact He.free_ok X G (F.at i h)
theorem Fc.int (F : Fc fbs fn K mg) (i : Nat) {x : Str} {n : Int} (h : fbs[i]? = some (.fa (.int x n)) := by rfl) : ∃ u, mg x = some u ∧ RelV (V.int n) u := by
  obtain ⟨_, X, G⟩ := F.hp
  obtain ⟨t, e⟩ := He.int_ok X G (F.at i h)
  exact ⟨_, e, t, rfl⟩
theorem Fc.str (F : Fc fbs fn K mg) (i : Nat) {x z : Str} (h : fbs[i]? = some (.fa (.str x z)) := by rfl) : ∃ u, mg x = some u ∧ RelV (V.str z) u := by
  obtain ⟨_, X, G⟩ := F.hp
  obtain ⟨t, e⟩ := He.str_ok X G (F.at i h)
  exact ⟨_, e, t, rfl⟩
theorem Fc.cls (F : Fc fbs fn K mg) (i : Nat) {x : Str} (h : fbs[i]? = some (.fa (.cls x)) := by rfl) : Cls K (He.ga K x) := He.cls_ok (F.at i h)
theorem Fc.meth (F : Fc fbs fn K mg) (i : Nat) {x m : Str} (h : fbs[i]? = some (.fa (.meth x m)) := by rfl) : Meth K (He.ga K x) m (He.ma K (He.ga K x) m) := He.meth_ok (F.at i h)
theorem Fc.mkr (F : Fc fbs fn K mg) (i : Nat) {x : Str} (h : fbs[i]? = some (.fa (.mkr x)) := by rfl) : Mk K (He.ga K x) (He.ma K (He.ga K x) "__init__") := He.mkr_ok (F.at i h)
theorem gaB {h : Heap} (X : K.In h) (G : h.Ns mainGlobals mg) {x : Str} {C : Addr} (c : (He.Fa.glo x).ok K = true) (e : mg x = some (.ref C)) : C = He.ga K x := by
  rw [He.glo_ok X G c] at e
  cases e
  rfl
theorem Fc.fld (F : Fc fbs fn K mg) (i : Nat) {cs : List Str} {f : Str} (h : fbs[i]? = some (.fld cs f) := by rfl) : FldOk K mg cs f := by
  obtain ⟨_, X, G⟩ := F.hp
  have a := F.at i h
  intro c hc C hC
  obtain ⟨b1, b⟩ := He.ba (List.all_eq_true.mp (show (cs.all fun c => (He.Fa.glo c).ok K && ((He.Fa.cls c).ok K && (He.Fa.noat c f).ok K)) = true from a) c hc)
  obtain ⟨b2, b3⟩ := He.ba b
  rw [gaB X G b1 hC]
  exact ⟨He.cls_ok b2, He.noat_ok b3⟩
theorem Fc.isf (F : Fc fbs fn K mg) (i : Nat) {cs : List Str} (h : fbs[i]? = some (.isf cs) := by rfl) : IsF K mg cs := by
  obtain ⟨_, X, G⟩ := F.hp
  obtain ⟨a1, a2⟩ := He.ba (show ((cs.all fun c => (He.Fa.glo c).ok K) && isfB K cs) = true from F.at i h)
  have g : ∀ c ∈ cs, ∀ C, mg c = some (.ref C) → C = He.ga K c := fun c hc C hC => gaB X G (List.all_eq_true.mp a1 c hc) hC
  have k := fun c (hc : c ∈ cs) => He.ba (List.all_eq_true.mp a2 c hc)
  refine ⟨fun c hc C hC => ?_, fun c hc c' hc' C C' hC hC' => ?_, fun c hc C hC n hn => ?_, fun c hc C hC n hn => ?_⟩
  · obtain ⟨b1, b2⟩ := k c hc
    obtain ⟨b2, _⟩ := He.ba b2
    simp only [insB, Bool.and_eq_true, decide_eq_true_eq] at b2
    rw [g c hc C hC]
    exact ⟨He.cls_ok b1, b2.1, b2.2.1, b2.2.2.1, b2.2.2.2⟩
  · obtain ⟨_, b2⟩ := k c hc
    obtain ⟨_, b3⟩ := He.ba b2
    obtain ⟨b4, _⟩ := He.ba b3
    rw [g c hc C hC, g c' hc' C' hC']
    exact of_decide_eq_true (List.all_eq_true.mp b4 c' hc')
  · obtain ⟨_, b2⟩ := k c hc
    obtain ⟨_, b3⟩ := He.ba b2
    obtain ⟨_, b4⟩ := He.ba b3
    rw [g c hc C hC]
    exact of_decide_eq_true (He.ba (List.all_eq_true.mp b4 n hn)).1
  · obtain ⟨_, b2⟩ := k c hc
    obtain ⟨_, b3⟩ := He.ba b2
    obtain ⟨_, b4⟩ := He.ba b3
    rw [g c hc C hC]
    exact of_decide_eq_true (He.ba (List.all_eq_true.mp b4 n hn)).2
theorem Fc.nf (F : Fc fbs fn K mg) (i : Nat) {cs : List Str} (h : fbs[i]? = some (.nf cs) := by rfl) : ∀ c ∈ cs, ∀ C, mg c = some (.ref C) → (∀ c' ∈ cs, ∀ C', mg c' = some (.ref C') → PySem.W.notFirst K C (.ref C') = true) ∧ ∀ n ∈ tyNames, PySem.W.notFirst K C (.type n) = true ∧ PySem.W.subIn K (.ref C) (.type n) = some false := by
  obtain ⟨_, X, G⟩ := F.hp
  obtain ⟨a1, a2⟩ := He.ba (show ((cs.all fun c => (He.Fa.glo c).ok K) && nfB K cs) = true from F.at i h)
  have g : ∀ c ∈ cs, ∀ C, mg c = some (.ref C) → C = He.ga K c := fun c hc C hC => gaB X G (List.all_eq_true.mp a1 c hc) hC
  intro c hc C hC
  obtain ⟨b1, b2⟩ := He.ba (List.all_eq_true.mp a2 c hc)
  rw [g c hc C hC]
  exact ⟨fun c' hc' C' hC' => by rw [g c' hc' C' hC']; exact List.all_eq_true.mp b1 c' hc', fun n hn => let ⟨z1, z2⟩ := He.ba (List.all_eq_true.mp b2 n hn); ⟨z1, of_decide_eq_true z2⟩⟩
theorem Fc.ownN (F : Fc fbs fn K mg) (i : Nat) {c : Str} (h : fbs[i]? = some (.own c) := by rfl) {X : Cx} (hK : X.K = K := by rfl) (hm : X.mg = mg := by rfl) : OwnN X c := by
  subst hK hm
  obtain ⟨_, X0, G⟩ := F.hp
  obtain ⟨a0, a⟩ := He.ba (show ((He.Fa.glo c).ok X.K && (decide (PySem.W.mroIn X.K (He.ga X.K c) (.type "object") = some true) && (decide (PySem.W.findIn X.K (.ref (He.ga X.K c)) "__ne__" = some (some (.builtin "object.__ne__"))) && decide (PySem.W.findIn X.K (.ref (He.ga X.K c)) "__bool__" = some none)))) = true from F.at i h)
  simp only [Bool.and_eq_true, decide_eq_true_eq] at a
  refine ⟨fun C hC => ?_⟩
  rw [gaB X0 G a0 hC]
  exact a
theorem Fc.emk (F : Fc fbs fn K mg) (i : Nat) {p : Str × Option Str} {k : Str} (h : fbs[i]? = some (.emk p k) := by rfl) (m : List Addr) (H : Hp) : RD K mg m H (.tup []) (.ref (kwdAt p k K)) := by
  have e := emtB_ok (F.at i h)
  simp only [RD, RDs]
  exact ⟨_, [], rfl, .inr e, rfl⟩
theorem Fc.emd (F : Fc fbs fn K mg) (i : Nat) {p : Str × Option Str} {k : Nat} (h : fbs[i]? = some (.emd p k) := by rfl) (m : List Addr) (H : Hp) : RD K mg m H (.tup []) (.ref (He.dflAt p k K)) := by
  have e := emtB_ok (F.at i h)
  simp only [RD, RDs]
  exact ⟨_, [], rfl, .inr e, rfl⟩
/-- the function object that stands at p -/
def fdOf (K : PySem.W.Frag) (p : Str × Option Str) : FuncData := match K.lookup (He.fAd K p) with
  | some ⟨_, _, .func fd, _⟩ => fd
  | _ => default
theorem Fc.fun_ (F : Fc fbs fn K mg) (i : Nat) {d : He.DefD} (h : fn[i]? = some d := by rfl) : FunD K d.name d.qual d.params d.body d.scope (d.dvs K) (d.kws K) (He.fAd K d.at_) (fdOf K d.at_) := by
  obtain ⟨fd, H⟩ := F.d.def_ i h
  obtain ⟨oc, od, dV, kV, doc, pm, an, cdv, ct, osl, e, lk, _⟩ := id H.ex
  have q : fdOf K d.at_ = fd := by
    unfold fdOf
    rw [lk]
  rw [q]
  exact H
end
end G

/-! G15: what a function answers, step by step. -/
namespace G
open PySem PySem.Spec PyProof.Rows L2
def R.xp {α : Type} (r : R α) (E : D → Hs → Prop) (Q : α → Hs → Prop) : Prop := match r with
  | .ok a h => Q a h
  | .er e h => E e h
  | .no => False
def RS.xp (r : RS) (E : D → Ev → Hs → Prop) (N : Ev → Hs → Prop) (T : D → Hs → Prop) (B C : Ev → Hs → Prop) : Prop := match r with
  | .nx ρ h => N ρ h
  | .rt d h => T d h
  | .bk ρ h => B ρ h
  | .ct ρ h => C ρ h
  | .er e ρ h => E e ρ h
  | .no => False
abbrev noE : D → Hs → Prop := fun _ _ => False
abbrev R.wp {α : Type} (r : R α) (Q : α → Hs → Prop) : Prop := r.xp noE Q
abbrev noES : D → Ev → Hs → Prop := fun _ _ _ => False
abbrev RS.wp (r : RS) (N : Ev → Hs → Prop) (T : D → Hs → Prop) (B C : Ev → Hs → Prop) : Prop := r.xp noES N T B C
section
variable {α β : Type} {Q Q' : α → Hs → Prop} {h : Hs} {ρ : Ev} {E : D → Hs → Prop}
theorem R.xp.get {r : R α} (w : r.xp noE Q) : ∃ a h', r = .ok a h' ∧ Q a h' := by
  cases r with
  | ok a h => exact ⟨a, h, rfl, w⟩
  | er e h => exact w.elim
  | no => exact w.elim
theorem R.xp.mono {r : R α} (w : r.xp E Q) (k : ∀ a h', Q a h' → Q' a h') : r.xp E Q' := by
  cases r with
  | ok a h => exact k a h w
  | er e h => exact w
  | no => exact w.elim
theorem w_ok {a : α} (q : Q a h) : (R.ok a h).xp E Q := q
theorem w_bind {x : R β} {f : β → Hs → R α} (q : x.xp E fun b h1 => (f b h1).xp E Q) : (x.bind f).xp E Q := by
  cases x with
  | ok a h => exact q
  | er e h => exact q
  | no => exact q.elim
end
section
variable {E : D → Hs → Prop} {Q : D → Hs → Prop} {h : Hs} {ρ : Ev} {fa fb fc fe fo fv fi : SE} {ga gk : SA}
theorem w_var {i : Nat} {d : D} (e : ρ[i]? = some (some d)) (q : Q d h) : (sVar i ρ h).xp E Q := by
  unfold sVar
  rw [e]
  exact q
theorem w_c {d : D} (q : Q d h) : (sC d ρ h).xp E Q := q
theorem w_bin {g : V2} (q : (fa ρ h).xp E fun x h1 => (fb ρ h1).xp E fun y h2 => (g x y h2).xp E Q) : (sBin g fa fb ρ h).xp E Q := w_bind (q.mono fun _ _ z => w_bind z)
theorem w_anil {Q : List D → Hs → Prop} (q : Q [] h) : (aNil ρ h).xp E Q := q
theorem w_acons {Q : List D → Hs → Prop} (q : (fa ρ h).xp E fun d h1 => (ga ρ h1).xp E fun ds h2 => Q (d :: ds) h2) : (aCons fa ga ρ h).xp E Q := w_bind (q.mono fun _ _ z => w_bind (z.mono fun _ _ z => z))
theorem w_callB {g : VA} (q : (ga ρ h).xp E fun ds h1 => (g ds h1).xp E Q) : (sCallB g ga ρ h).xp E Q := w_bind q
theorem w_call {f : Fs} {n m : Nat} {gD : List D → List D → List D} (q : (ga ρ h).xp E fun ds h1 => (gk ρ h1).xp E fun es h2 => (ds.length = n ∧ es.length = m) ∧ (f (gD ds es) h2).xp E Q) : (sCall f n m gD ga gk ρ h).xp E Q :=
  w_bind (q.mono fun _ _ z => w_bind (z.mono fun _ _ z => by rw [if_pos z.1]; exact z.2))
theorem w_tup (q : (ga ρ h).xp E fun ds h1 => Nat.ble ds.length 64 = true ∧ Q (.tup ds) h1) : (sTup ga ρ h).xp E Q := w_bind (q.mono fun _ _ z => by rw [if_pos (Nat.le_trans (Nat.le_of_ble_eq_true z.1) (by decide))]; exact z.2)
theorem w_lst (q : (ga ρ h).xp E fun ds h1 => Nat.ble ds.length 64 = true ∧ Q (.lst ds) h1) : (sLst ga ρ h).xp E Q := w_bind (q.mono fun _ _ z => by rw [if_pos (Nat.le_trans (Nat.le_of_ble_eq_true z.1) (by decide))]; exact z.2)
theorem w_lstR (q : (ga ρ h).xp E fun ds h1 => Nat.ble ds.length 64 = true ∧ Q (.ref h1.length) (h1 ++ [.lst ds])) : (sLstR ga ρ h).xp E Q := w_bind (q.mono fun _ _ z => by rw [if_pos (Nat.le_trans (Nat.le_of_ble_eq_true z.1) (by decide))]; exact z.2)
theorem w_fld {cs : List Str} {f : Str} (q : (fe ρ h).xp E fun d h1 => ∃ c fs v, asIns d h1 = some (c, fs) ∧ c ∈ cs ∧ fs.lookup f = some v ∧ Q v h1) : (sFldD cs f fe ρ h).xp E Q := w_bind (q.mono fun d h1 ⟨c, fs, v, e1, e2, e3, z⟩ => by
  unfold gFld
  rw [e1]
  simp only [if_pos e2, e3]
  exact z)
theorem w_isi {cs : List Str} {ts : List Ty} (q : (fe ρ h).xp E fun d h1 => ∃ t, tyD d h1 = some t ∧ okTy cs t = true ∧ ((ts.any (subT t) = true ∧ Q (.bl true) h1) ∨ (ts.any (subT t) = false ∧ Q (.bl false) h1))) : (sIsi cs ts fe ρ h).xp E Q := w_bind (q.mono fun d h1 ⟨t, e1, e2, z⟩ => by
  rw [e1]
  simp only [if_pos e2]
  rcases z with ⟨e3, z⟩ | ⟨e3, z⟩
  · rw [e3]; exact z
  · rw [e3]; exact z)
theorem w_ite {t : ST} (q : (t ρ h).xp E fun b h1 => (b = true → (fa ρ h1).xp E Q) ∧ (b = false → (fb ρ h1).xp E Q)) : (sIte t fa fb ρ h).xp E Q := w_bind (q.mono fun b h1 z => by
  cases b with
  | true => exact z.1 rfl
  | false => exact z.2 rfl)
theorem w_andV (q : (fa ρ h).xp E fun d h1 => ∃ b, d = .bl b ∧ (b = true → (fb ρ h1).xp E Q) ∧ (b = false → Q (.bl false) h1)) : (sAndV fa fb ρ h).xp E Q := w_bind (q.mono fun d h1 ⟨b, e, z1, z2⟩ => by
  subst e
  cases b with
  | true => exact z1 rfl
  | false => exact z2 rfl)
theorem w_notV (q : (fa ρ h).xp E fun d h1 => ∃ b, d = .bl b ∧ Q (.bl (!b)) h1) : (sNotV fa ρ h).xp E Q := w_bind (q.mono fun d h1 ⟨b, e, z⟩ => by
  subst e
  exact z)
theorem w_chain {g g' : V2} (q : (fa ρ h).xp E fun x h1 => (fb ρ h1).xp E fun y h2 => (g x y h2).xp E fun r h3 => ∃ b, r = .bl b ∧ (b = true → (fc ρ h3).xp E fun z h4 => (g' y z h4).xp E Q) ∧ (b = false → Q (.bl false) h3)) : (sChain g g' fa fb fc ρ h).xp E Q :=
  w_bind (q.mono fun _ _ z => w_bind (z.mono fun _ _ z => w_bind (z.mono fun d h1 ⟨b, e, z1, z2⟩ => by
    subst e
    cases b with
    | true => exact w_bind (z1 rfl)
    | false => exact z2 rfl)))
theorem w_sl {fl fh : SO} (q : (fe ρ h).xp E fun d h1 => (fl ρ h1).xp E fun l h2 => (fh ρ h2).xp E fun u h3 => (gSl d l u h3).xp E Q) : (sSl fe fl fh ρ h).xp E Q := w_bind (q.mono fun _ _ z => w_bind (z.mono fun _ _ z => w_bind z))
theorem w_part {Q : Option Int → Hs → Prop} (q : (fe ρ h).xp E fun d h1 => ∃ i, d = .int i ∧ Q (some i) h1) : (sPart fe ρ h).xp E Q := w_bind (q.mono fun d h1 ⟨i, e, z⟩ => by subst e; exact z)
theorem w_noPart {Q : Option Int → Hs → Prop} (q : Q none h) : (sNoPart ρ h).xp E Q := q
theorem w_bm {T : String} {g : VM} (q : (fo ρ h).xp E fun d h1 => isTy T d h1 = true ∧ (ga ρ h1).xp E fun ds h2 => (g d ds h2).xp E Q) : (sBM T g fo ga ρ h).xp E Q := w_bind (q.mono fun d h1 z => by rw [if_pos z.1]; exact w_bind z.2)
theorem w_trim (q : (fe ρ h).xp noE fun d h1 => ∃ d', frz h1 h.length d = some d' ∧ OldOk h h1 ∧ Q d' (h1.take h.length)) : (sTrim fe ρ h).xp E Q := by
  obtain ⟨d, h1, e, d', e1, e2, z⟩ := q.get
  unfold sTrim
  rw [e]
  simp only [R.trim, e1, if_pos e2]
  exact z
/-- .. which may raise -/
theorem w_trimE (q : (fe ρ h).xp (fun e h1 => (e.blw h.length = true ∧ OldOk h h1) ∧ E e (h1.take h.length)) fun d h1 => ∃ d', frz h1 h.length d = some d' ∧ OldOk h h1 ∧ Q d' (h1.take h.length)) : (sTrim fe ρ h).xp E Q := by
  unfold sTrim
  generalize fe ρ h = r at q
  cases r with
  | ok d h1 =>
    obtain ⟨d', e1, e2, z⟩ := q
    simp only [R.trim, e1, if_pos e2]
    exact z
  | er e h1 =>
    obtain ⟨e2, z⟩ := q
    simp only [R.trim, if_pos e2]
    exact z
  | no => exact q.elim
theorem R.xp.weak {α : Type} {r : R α} {Q : α → Hs → Prop} (w : r.xp noE Q) : r.xp E Q := by
  cases r with
  | ok a h => exact w
  | er e h => exact w.elim
  | no => exact w
theorem w_make {c : Str} {f : Fs} {n m : Nat} {gD : List D → List D → List D} (q : (ga ρ h).xp E fun ds h1 => (gk ρ h1).xp E fun es h2 => (ds.length = n ∧ es.length = m) ∧ (f (gD (.ref h2.length :: ds) es) (h2 ++ [.ins c []])).xp E fun v h3 => v = .non ∧ Q (.ref h2.length) h3) : (sMake c f n m gD ga gk ρ h).xp E Q :=
  w_bind (q.mono fun _ _ z => w_bind (z.mono fun _ _ z => by
    rw [if_pos z.1]
    exact w_bind (z.2.mono fun v h3 ⟨e, z⟩ => by subst e; exact z)))
theorem w_tupRg1 (q : (fe ρ h).xp E fun d h1 => ∃ b, d = .int b ∧ okRg 0 b ∧ Q (.tup (rngD 0 b)) h1) : (sTupRg1 fe ρ h).xp E Q := w_bind (q.mono fun d h1 ⟨b, e, o, z⟩ => by
  subst e
  show R.xp (if okRg 0 b then _ else _) E Q
  rw [if_pos o]
  exact z)
/-! tests -/
variable {QB : Bool → Hs → Prop} {ta tb : ST}
theorem w_TB (q : (fe ρ h).xp E fun d h1 => ∃ b, d = .bl b ∧ QB b h1) : (sTB fe ρ h).xp E QB := w_bind (q.mono fun d h1 ⟨b, e, z⟩ => by subst e; exact z)
theorem w_tru (q : (fe ρ h).xp E fun d h1 => ∃ b, truD d h1 = some b ∧ QB b h1) : (sTru fe ρ h).xp E QB := w_bind (q.mono fun d h1 ⟨b, e, z⟩ => by
  unfold truR
  rw [e]
  exact z)
theorem w_and (q : (ta ρ h).xp E fun b h1 => (b = true → (tb ρ h1).xp E QB) ∧ (b = false → QB false h1)) : (sAnd ta tb ρ h).xp E QB := w_bind (q.mono fun b h1 z => by
  cases b with
  | true => exact z.1 rfl
  | false => exact z.2 rfl)
theorem w_or (q : (ta ρ h).xp E fun b h1 => (b = true → QB true h1) ∧ (b = false → (tb ρ h1).xp E QB)) : (sOr ta tb ρ h).xp E QB := w_bind (q.mono fun b h1 z => by
  cases b with
  | true => exact z.1 rfl
  | false => exact z.2 rfl)
theorem w_not (q : (ta ρ h).xp E fun b h1 => QB (!b) h1) : (sNot ta ρ h).xp E QB := w_bind q
theorem w_yes (q : QB true h) : (sYes ρ h).xp E QB := q
/-! iterables -/
variable {QI : Src → Hs → Prop}
theorem w_sq (q : (fe ρ h).xp E fun d h1 => ∃ s, srcOf d h1 = some s ∧ QI s h1) : (iSq fe ρ h).xp E QI := w_bind (q.mono fun d h1 ⟨s, e, z⟩ => by rw [e]; exact z)
theorem w_rg1 (q : (fe ρ h).xp E fun d h1 => ∃ b, d = .int b ∧ inR b ∧ QI (rngD 0 b, rel0) h1) : (iRg1 fe ρ h).xp E QI := w_bind (q.mono fun d h1 ⟨b, e, o, z⟩ => by
  subst e
  show R.xp (if inR b then _ else _) E QI
  rw [if_pos o]
  exact z)
theorem w_zpT (q : (fa ρ h).xp E fun d h1 => (fb ρ h1).xp E fun e h2 => ∃ ds es, d = .tup ds ∧ e = .tup es ∧ QI (zipD ds es, rel0) h2) : (iZp fa fb ρ h).xp E QI := w_bind (q.mono fun d h1 z => w_bind (z.mono fun e h2 ⟨ds, es, e1, e2, y⟩ => by subst e1 e2; exact y))
end
/-! statements -/
section
variable {E : D → Ev → Hs → Prop} {N B C : Ev → Hs → Prop} {T : D → Hs → Prop} {h : Hs} {ρ : Ev} {fe fo fv fi : SE} {f g : SS} {ga : SA}
theorem RS.xp.mono {r : RS} {N' B' C' : Ev → Hs → Prop} {T' : D → Hs → Prop} (w : r.xp E N T B C) (n : ∀ ρ h, N ρ h → N' ρ h) (t : ∀ d h, T d h → T' d h) (b : ∀ ρ h, B ρ h → B' ρ h) (c : ∀ ρ h, C ρ h → C' ρ h) : r.xp E N' T' B' C' := by
  cases r with
  | nx ρ h => exact n _ _ w
  | rt ρ h => exact t _ _ w
  | bk ρ h => exact b _ _ w
  | ct ρ h => exact c _ _ w
  | er e ρ h => exact w
  | no => exact w.elim
theorem w_toS {α : Type} {x : R α} {k : α → Hs → RS} (q : x.xp (fun e h => E e ρ h) fun a h1 => (k a h1).xp E N T B C) : (x.toS ρ k).xp E N T B C := by
  cases x with
  | ok a h => exact q
  | er e h => exact q
  | no => exact q.elim
theorem w_next (q : N ρ h) : (sNext ρ h).xp E N T B C := q
theorem w_seq (q : (f ρ h).xp E (fun ρ1 h1 => (g ρ1 h1).xp E N T B C) T B C) : (sSeq f g ρ h).xp E N T B C := by
  unfold sSeq
  generalize f ρ h = r at q
  cases r with
  | nx ρ h => exact q
  | rt ρ h => exact q
  | bk ρ h => exact q
  | ct ρ h => exact q
  | er e ρ h => exact q
  | no => exact q.elim
theorem w_drop (q : (fe ρ h).xp (fun e h => E e ρ h) fun _ h1 => N ρ h1) : (sDrop fe ρ h).xp E N T B C := w_toS q
theorem w_ret (q : (fe ρ h).xp (fun e h => E e ρ h) T) : (sRet fe ρ h).xp E N T B C := w_toS q
theorem w_set {i : Nat} (q : (fe ρ h).xp (fun e h => E e ρ h) fun d h1 => N (ρ.set i (some d)) h1) : (sSet i fe ρ h).xp E N T B C := w_toS q
theorem w_asg {t : D → Ev → Option Ev} (q : (fe ρ h).xp (fun e h => E e ρ h) fun d h1 => ∃ ρ', t d ρ = some ρ' ∧ N ρ' h1) : (sAsg fe t ρ h).xp E N T B C := w_toS (q.mono fun d h1 ⟨ρ', e, z⟩ => by rw [e]; exact z)
theorem w_if {t : ST} (q : (t ρ h).xp (fun e h => E e ρ h) fun b h1 => (b = true → (f ρ h1).xp E N T B C) ∧ (b = false → (g ρ h1).xp E N T B C)) : (sIf t f g ρ h).xp E N T B C := w_toS (q.mono fun b h1 z => by
  cases b with
  | true => exact z.1 rfl
  | false => exact z.2 rfl)
theorem w_put {p : D → D → D → Hs → Option Hs} (q : (fv ρ h).xp (fun e h => E e ρ h) fun v h1 => (fo ρ h1).xp (fun e h => E e ρ h) fun o h2 => (fi ρ h2).xp (fun e h => E e ρ h) fun i h3 => ∃ h4, p o i v h3 = some h4 ∧ N ρ h4) : (sPut p fv fo fi ρ h).xp E N T B C :=
  w_toS (q.mono fun _ _ z => w_toS (z.mono fun _ _ z => w_toS (z.mono fun _ _ ⟨h4, e, z⟩ => by rw [e]; exact z)))
theorem w_fset {cs : List Str} {x : Str} (q : (fv ρ h).xp (fun e h => E e ρ h) fun v h1 => (fo ρ h1).xp (fun e h => E e ρ h) fun o h2 => ∃ n c fs, mutI o h2 = some (n, c, fs) ∧ (c ∈ cs ∧ fs.length < 900) ∧ N ρ (h2.set n (.ins c (putFD x v fs)))) : (sFldSet cs x fv fo ρ h).xp E N T B C :=
  w_toS (q.mono fun _ _ z => w_toS (z.mono fun _ _ ⟨n, c, fs, e, e2, z⟩ => by
    rw [e]
    simp only [if_pos e2]
    exact z))
theorem w_asgF {n : Nat} {t : List D → Ev → Hs → Option Hs} (q : (fe ρ h).xp (fun e h => E e ρ h) fun d h1 => ∃ ds h2, d = .tup ds ∧ ds.length = n ∧ t ds ρ h1 = some h2 ∧ N ρ h2) : (sAsgF fe n t ρ h).xp E N T B C := w_toS (q.mono fun d h1 ⟨ds, h2, e, e2, e3, z⟩ => by
  subst e
  simp only [if_pos e2, e3]
  exact z)
theorem forGo_wp {t : D → Ev → Option Ev} (I : List D → Ev → Hs → Prop) (k : ∀ d r ρ h, I (d :: r) ρ h → ∃ ρ1, t d ρ = some ρ1 ∧ (f ρ1 h).xp E (I r) T N (I r)) (n : ∀ ρ h, I [] ρ h → N ρ h) : ∀ (ds : List D) (ρ : Ev) (h : Hs), I ds ρ h → (forGo t f rel0 ds ρ h).xp E N T B C
  | [], ρ, h, i => by
    unfold forGo
    rw [if_pos (show rel0 h from trivial)]
    exact n _ _ i
  | d :: r, ρ, h, i => by
    obtain ⟨ρ1, e1, w⟩ := k _ _ _ _ i
    unfold forGo
    rw [if_pos (show rel0 h from trivial), e1]
    dsimp only
    generalize f ρ1 h = x at w
    cases x with
    | nx ρ h => exact forGo_wp I k n r ρ h w
    | rt ρ h => exact w
    | bk ρ h => exact w
    | ct ρ h => exact forGo_wp I k n r ρ h w
    | er e ρ h => exact w
    | no => exact w.elim
theorem w_for {s : SI} {t : D → Ev → Option Ev} (I : List D → Ev → Hs → Prop) (q : (s ρ h).xp (fun e h => E e ρ h) fun q h1 => q.2 = rel0 ∧ I q.1 ρ h1)
    (k : ∀ d r ρ h, I (d :: r) ρ h → ∃ ρ1, t d ρ = some ρ1 ∧ (f ρ1 h).xp E (I r) T N (I r)) (n : ∀ ρ h, I [] ρ h → N ρ h) : (sFor s t f ρ h).xp E N T B C := by
  refine w_toS (q.mono fun q h1 ⟨e, i⟩ => ?_)
  obtain ⟨ds, ok⟩ := q
  subst e
  exact forGo_wp I k n ds ρ h1 i
theorem w_run {E : D → Hs → Prop} {n : Nat} {ds : List D} {Q : D → Hs → Prop} (q : (f (startE n ds) h).xp (fun e _ h => E e h) (fun _ h1 => Q .non h1) Q (fun _ _ => False) (fun _ _ => False)) : (runB n f ds h).xp E Q := by
  unfold runB
  generalize f (startE n ds) h = r at q
  cases r with
  | nx ρ h => exact q
  | rt ρ h => exact q
  | bk ρ h => exact q
  | ct ρ h => exact q
  | er e ρ h => exact q
  | no => exact q.elim
end
/-! ### [elt for .. in ..], trimmed; J: what the old objects keep -/
inductive Al (P : D → D → Prop) : List D → List D → Prop
  | nil : Al P [] []
  | cons {d y : D} {ds ys : List D} : P d y → Al P ds ys → Al P (d :: ds) (y :: ys)
theorem Al.len {P : D → D → Prop} : ∀ {ds ys : List D}, Al P ds ys → ys.length = ds.length
  | _, _, .nil => rfl
  | _, _, .cons _ r => by simp [r.len]
theorem Al.all {P : D → D → Prop} {R : D → Prop} (k : ∀ d y, P d y → R y) : ∀ {ds ys : List D}, Al P ds ys → ∀ y ∈ ys, R y
  | _, _, .nil, y, h => by simp at h
  | _, _, .cons p r, y, h => by
    rcases List.mem_cons.mp h with rfl | h
    · exact k _ _ p
    · exact r.all k y h
theorem belows_app {n : Nat} {a b : List D} (h1 : belows n a = true) (h2 : belows n b = true) : belows n (a ++ b) = true := by
  rw [belows_all] at *
  rw [List.all_append, h1, h2]; rfl
theorem cmpGo_wp {E : D → Hs → Prop} {n : Nat} {ρ : Ev} {t : D → Ev → Option Ev} {c : ST} {f : SE} (J : Hs → Prop) (P : D → D → Prop) : ∀ (r acc : List D) (g : Hs), J g → g.length = n → belows n acc = true → acc.length + r.length ≤ 10000 →
      (∀ d ∈ r, ∀ g acc, J g → g.length = n → ∃ ρ1, t d ρ = some ρ1 ∧ (c ρ1 (g ++ [.lst acc])).xp noE fun b h2 => b = true ∧ h2 = g ++ [.lst acc] ∧ (f ρ1 h2).xp noE fun y h3 => y.blw n = true ∧ P d y ∧ ∃ g', h3 = g' ++ [.lst acc] ∧ J g' ∧ g'.length = n) →
      (cmpGo t c f rel0 ρ n r (g ++ [.lst acc])).xp E fun d h2 => ∃ ys g', d = .ref n ∧ h2 = g' ++ [.lst (acc ++ ys)] ∧ J g' ∧ g'.length = n ∧ belows n (acc ++ ys) = true ∧ Al P r ys
  | [], acc, g, j, l, b, z, k => by
    unfold cmpGo
    rw [if_pos (show rel0 _ from trivial)]
    exact ⟨[], g, rfl, by simp, j, l, by simpa using b, .nil⟩
  | d :: r, acc, g, j, l, b, z, k => by
    obtain ⟨ρ1, e1, w⟩ := k d List.mem_cons_self g acc j l
    obtain ⟨b1, h2, e2, rfl, rfl, w2⟩ := w.get
    obtain ⟨y, h3, e3, by3, py, g', rfl, j', l'⟩ := w2.get
    unfold cmpGo
    rw [if_pos (show rel0 _ from trivial), e1]
    simp only [e2, R.dry, R.bind, e3]
    have ea : (g' ++ [OB.lst acc])[n]? = some (.lst acc) := by rw [← l', List.getElem?_append_right (Nat.le_refl _)]; simp
    have eb : (g' ++ [OB.lst acc]).set n (.lst (acc ++ [y])) = g' ++ [.lst (acc ++ [y])] := by rw [← l']; simp
    simp only [List.length_cons] at z
    have hz : acc.length < sizeLine := by rw [sizeLine_eq]; omega
    simp only [ea, if_pos hz, eb]
    refine (cmpGo_wp J P r (acc ++ [y]) g' j' l' (belows_app b (by simp [belows, by3])) (by simp; omega) (fun d hd => k d (List.mem_cons_of_mem _ hd))).mono fun x hx ⟨ys, g2, a1, a2, a3, a4, a5, a6⟩ => ?_
    exact ⟨y :: ys, g2, a1, by rw [a2]; simp, a3, a4, by simpa using a5, .cons py a6⟩
theorem w_lr {E : D → Hs → Prop} {Q : D → Hs → Prop} {h : Hs} {ρ : Ev} {s : SI} {t : D → Ev → Option Ev} {c : ST} {f : SE} {vs : List Nat} (J : Hs → Prop) (P : D → D → Prop)
    (q : (s ρ h).xp noE fun q h1 => q.2 = rel0 ∧ q.1.length ≤ 10000 ∧ h1.length = h.length ∧ J h1 ∧
      (∀ d ∈ q.1, ∀ g acc, J g → g.length = h.length → ∃ ρ1, t d (wipeE ρ vs) = some ρ1 ∧ (c ρ1 (g ++ [.lst acc])).xp noE fun b h2 => b = true ∧ h2 = g ++ [.lst acc] ∧ (f ρ1 h2).xp noE fun y h3 => y.blw h.length = true ∧ P d y ∧ ∃ g', h3 = g' ++ [.lst acc] ∧ J g' ∧ g'.length = h.length) ∧
      ∀ ys g, J g → g.length = h.length → Al P q.1 ys → OldOk h g ∧ Q (.lst ys) g) :
    (sTrim (sLr s t c f vs) ρ h).xp E Q := by
  refine w_trim (w_bind (q.mono fun q h1 ⟨e, hz, hl, j, k, fin⟩ => ?_))
  obtain ⟨ds, ok⟩ := q
  subst e
  dsimp only at k fin hz ⊢
  rw [hl]
  refine (cmpGo_wp J P ds [] h1 j hl rfl (by simpa using hz) k).mono fun d h2 ⟨ys, g, a1, a2, a3, a4, a5, a6⟩ => ?_
  subst a1 a2
  obtain ⟨o, z⟩ := fin ys g a3 a4 a6
  refine ⟨.lst ys, ?_, ?_, by rw [← a4]; simpa using z⟩
  · have e : (g ++ [OB.lst ([] ++ ys)])[h.length]? = some (.lst ys) := by rw [← a4, List.getElem?_append_right (Nat.le_refl _)]; simp
    simp only [frz, if_neg (Nat.lt_irrefl _), e]
    rw [if_pos (by simpa using a5)]
  · intro i hi
    have := o i hi
    rwa [List.getElem?_append_left (by omega)]
/-- .. with a test; P d none: left out -/
inductive AlF (P : D → Option D → Prop) : List D → List D → Prop
  | nil : AlF P [] []
  | cons {d y : D} {ds ys : List D} : P d (some y) → AlF P ds ys → AlF P (d :: ds) (y :: ys)
  | skip {d : D} {ds ys : List D} : P d none → AlF P ds ys → AlF P (d :: ds) ys
theorem cmpGoF_wp {E : D → Hs → Prop} {n : Nat} {ρ : Ev} {t : D → Ev → Option Ev} {c : ST} {f : SE} (J : Hs → Prop) (P : D → Option D → Prop) : ∀ (r acc : List D) (g : Hs), J g → g.length = n → belows n acc = true → acc.length + r.length ≤ 10000 →
      (∀ d ∈ r, ∀ g acc, J g → g.length = n → ∃ ρ1, t d ρ = some ρ1 ∧ (c ρ1 (g ++ [.lst acc])).xp noE fun b h2 => ∃ g1, h2 = g1 ++ [.lst acc] ∧ J g1 ∧ g1.length = n ∧ ((b = false ∧ P d none) ∨ (b = true ∧ (f ρ1 h2).xp noE fun y h3 => y.blw n = true ∧ P d (some y) ∧ ∃ g', h3 = g' ++ [.lst acc] ∧ J g' ∧ g'.length = n))) →
      (cmpGo t c f rel0 ρ n r (g ++ [.lst acc])).xp E fun d h2 => ∃ ys g', d = .ref n ∧ h2 = g' ++ [.lst (acc ++ ys)] ∧ J g' ∧ g'.length = n ∧ belows n (acc ++ ys) = true ∧ AlF P r ys
  | [], acc, g, j, l, b, z, k => by
    unfold cmpGo
    rw [if_pos (show rel0 _ from trivial)]
    exact ⟨[], g, rfl, by simp, j, l, by simpa using b, .nil⟩
  | d :: r, acc, g, j, l, b, z, k => by
    obtain ⟨ρ1, e1, w⟩ := k d List.mem_cons_self g acc j l
    obtain ⟨b1, h2, e2, g1, rfl, j1, l1, w2⟩ := w.get
    simp only [List.length_cons] at z
    unfold cmpGo
    rw [if_pos (show rel0 _ from trivial), e1]
    rcases w2 with ⟨rfl, pn⟩ | ⟨rfl, w2⟩
    · simp only [e2, R.dry, R.bind]
      refine (cmpGoF_wp J P r acc g1 j1 l1 b (by omega) (fun d hd => k d (List.mem_cons_of_mem _ hd))).mono fun x hx ⟨ys, g2, a1, a2, a3, a4, a5, a6⟩ => ?_
      exact ⟨ys, g2, a1, a2, a3, a4, a5, .skip pn a6⟩
    · obtain ⟨y, h3, e3, by3, py, g', rfl, j', l'⟩ := w2.get
      simp only [e2, R.dry, R.bind, e3]
      have ea : (g' ++ [OB.lst acc])[n]? = some (.lst acc) := by rw [← l', List.getElem?_append_right (Nat.le_refl _)]; simp
      have eb : (g' ++ [OB.lst acc]).set n (.lst (acc ++ [y])) = g' ++ [.lst (acc ++ [y])] := by rw [← l']; simp
      have hz : acc.length < sizeLine := by rw [sizeLine_eq]; omega
      simp only [ea, if_pos hz, eb]
      refine (cmpGoF_wp J P r (acc ++ [y]) g' j' l' (belows_app b (by simp [belows, by3])) (by simp; omega) (fun d hd => k d (List.mem_cons_of_mem _ hd))).mono fun x hx ⟨ys, g2, a1, a2, a3, a4, a5, a6⟩ => ?_
      exact ⟨y :: ys, g2, a1, by rw [a2]; simp, a3, a4, by simpa using a5, .cons py a6⟩
theorem w_lrF {E : D → Hs → Prop} {Q : D → Hs → Prop} {h : Hs} {ρ : Ev} {s : SI} {t : D → Ev → Option Ev} {c : ST} {f : SE} {vs : List Nat} (J : Hs → Prop) (P : D → Option D → Prop)
    (q : (s ρ h).xp noE fun q h1 => q.2 = rel0 ∧ q.1.length ≤ 10000 ∧ h1.length = h.length ∧ J h1 ∧
      (∀ d ∈ q.1, ∀ g acc, J g → g.length = h.length → ∃ ρ1, t d (wipeE ρ vs) = some ρ1 ∧ (c ρ1 (g ++ [.lst acc])).xp noE fun b h2 => ∃ g1, h2 = g1 ++ [.lst acc] ∧ J g1 ∧ g1.length = h.length ∧ ((b = false ∧ P d none) ∨ (b = true ∧ (f ρ1 h2).xp noE fun y h3 => y.blw h.length = true ∧ P d (some y) ∧ ∃ g', h3 = g' ++ [.lst acc] ∧ J g' ∧ g'.length = h.length))) ∧
      ∀ ys g, J g → g.length = h.length → AlF P q.1 ys → OldOk h g ∧ Q (.lst ys) g) :
    (sTrim (sLr s t c f vs) ρ h).xp E Q := by
  refine w_trim (w_bind (q.mono fun q h1 ⟨e, hz, hl, j, k, fin⟩ => ?_))
  obtain ⟨ds, ok⟩ := q
  subst e
  dsimp only at k fin hz ⊢
  rw [hl]
  refine (cmpGoF_wp J P ds [] h1 j hl rfl (by simpa using hz) k).mono fun d h2 ⟨ys, g, a1, a2, a3, a4, a5, a6⟩ => ?_
  subst a1 a2
  obtain ⟨o, z⟩ := fin ys g a3 a4 a6
  refine ⟨.lst ys, ?_, ?_, by rw [← a4]; simpa using z⟩
  · have e : (g ++ [OB.lst ([] ++ ys)])[h.length]? = some (.lst ys) := by rw [← a4, List.getElem?_append_right (Nat.le_refl _)]; simp
    simp only [frz, if_neg (Nat.lt_irrefl _), e]
    rw [if_pos (by simpa using a5)]
  · intro i hi
    have := o i hi
    rwa [List.getElem?_append_left (by omega)]
theorem isiT {o : Option Ty} {cs : List Str} {ts : List Ty} {A B : Prop} {t : Ty} (e : o = some t) (h1 : okTy cs t = true) (h2 : ts.any (subT t) = true) (q : A) : ∃ t, o = some t ∧ okTy cs t = true ∧ ((ts.any (subT t) = true ∧ A) ∨ (ts.any (subT t) = false ∧ B)) := ⟨t, e, h1, .inl ⟨h2, q⟩⟩
theorem isiF {o : Option Ty} {cs : List Str} {ts : List Ty} {A B : Prop} {t : Ty} (e : o = some t) (h1 : okTy cs t = true) (h2 : ts.any (subT t) = false) (q : B) : ∃ t, o = some t ∧ okTy cs t = true ∧ ((ts.any (subT t) = true ∧ A) ∨ (ts.any (subT t) = false ∧ B)) := ⟨t, e, h1, .inr ⟨h2, q⟩⟩
theorem ble_and {n : Nat} {Q : Prop} (e : Nat.ble n 64 = true) (q : Q) : Nat.ble n 64 = true ∧ Q := ⟨e, q⟩
theorem and_tt {A B : Prop} (q : A) : (true = true → A) ∧ (true = false → B) := ⟨fun _ => q, fun z => nomatch z⟩
theorem and_ff {A B : Prop} (q : B) : (false = true → A) ∧ (false = false → B) := ⟨fun z => (nomatch z), fun _ => q⟩
theorem and_nt {A B : Prop} (q : B) : ((!true) = true → A) ∧ ((!true) = false → B) := ⟨fun z => (nomatch z), fun _ => q⟩
theorem and_nf {A B : Prop} (q : A) : ((!false) = true → A) ∧ ((!false) = false → B) := ⟨fun _ => q, fun z => nomatch z⟩
theorem p_lenScr {ds : List D} {h : Hs} {E : D → Hs → Prop} {Q : D → Hs → Prop} (q : Q (.int ds.length) h) : (gLen [.scr ds] h).xp E Q := q
theorem p_lenL {ds : List D} {h : Hs} {E : D → Hs → Prop} {Q : D → Hs → Prop} (q : Q (.int ds.length) h) : (gLen [.lst ds] h).xp E Q := q
theorem p_lenT {ds : List D} {h : Hs} {E : D → Hs → Prop} {Q : D → Hs → Prop} (q : Q (.int ds.length) h) : (gLen [.tup ds] h).xp E Q := q
theorem p_lenS {x : Str} {h : Hs} {E : D → Hs → Prop} {Q : D → Hs → Prop} (n : x.length ≤ 1000) (q : Q (.int x.length) h) : (gLen [.str x] h).xp E Q := by
  show R.xp (if x.length ≤ sizeLine then _ else _) E Q
  rw [if_pos (by rw [sizeLine_eq]; omega)]
  exact q
theorem p_lenR {n : Nat} {ds : List D} {h : Hs} {E : D → Hs → Prop} {Q : D → Hs → Prop} (o : h[n]? = some (.lst ds)) (q : Q (.int ds.length) h) : (gLen [.ref n] h).xp E Q := by
  have a2 : asSq (.ref n) h = some ds := by unfold asSq asLst; simp only [o]
  show R.xp (match asSq (.ref n) h with | some xs => _ | none => _) E Q
  rw [a2]
  exact q
/-! ### ints -/
section
variable {E : D → Hs → Prop} {Q : D → Hs → Prop} {h : Hs} {i j : Int}
theorem p_mul (c : CMul i j) (q : Q (.int (i * j)) h) : (gMul (.int i) (.int j) h).xp E Q := by
  show R.xp (if CMul i j then _ else _) E Q
  rw [if_pos c]; exact q
theorem p_divW (c : CDivW i j) (q : Q (.int (i / j)) h) : (gDiv (.int i) (.int j) h).xp E Q := by
  show R.xp (if CDivW i j then _ else _) E Q
  rw [if_pos c]; exact q
theorem p_div (c : CDiv i j) (q : Q (.int (i / j)) h) : (gDiv (.int i) (.int j) h).xp E Q := by
  have c : CDivW i j := wide_div c.1 (b := 30) (by have := c.1; have := c.2; omega) (by decide) (by decide)
  show R.xp (if CDivW i j then _ else _) E Q
  rw [if_pos c]; exact q
theorem p_mod (c : 0 < j) (q : Q (.int (i % j)) h) : (gMod (.int i) (.int j) h).xp E Q := by
  show R.xp (if 0 < j then _ else _) E Q
  rw [if_pos c]; exact q
theorem p_pow (c : CPow i j) (q : Q (.int (i ^ j.toNat)) h) : (gPow (.int i) (.int j) h).xp E Q := by
  show R.xp (if CPow i j then _ else _) E Q
  rw [if_pos c]; exact q
theorem p_add (q : Q (.int (i + j)) h) : (gAdd (.int i) (.int j) h).xp E Q := q
theorem p_sub (q : Q (.int (i - j)) h) : (gSub (.int i) (.int j) h).xp E Q := q
theorem p_eqI (q : Q (.bl (decide (i = j))) h) : (gEq (.int i) (.int j) h).xp E Q := q
theorem p_neI (q : Q (.bl (!decide (i = j))) h) : (gNe (.int i) (.int j) h).xp E Q := q
theorem p_lt (q : Q (.bl (decide (i < j))) h) : (gLt (.int i) (.int j) h).xp E Q := q
theorem p_le (q : Q (.bl (decide (i ≤ j))) h) : (gLe (.int i) (.int j) h).xp E Q := q
theorem p_gt (q : Q (.bl (decide (j < i))) h) : (gGt (.int i) (.int j) h).xp E Q := q
theorem p_ge (q : Q (.bl (decide (j ≤ i))) h) : (gGe (.int i) (.int j) h).xp E Q := q
theorem atI_nat {ds : List D} {k : Nat} {d : D} (e : ds[k]? = some d) : atI ds (k : Int) = some d := by
  unfold atI ixN
  obtain ⟨hl, hv⟩ := List.getElem?_eq_some_iff.mp e
  simp [hl, hv]
theorem p_ixL {ds : List D} {k : Nat} {d : D} (e : ds[k]? = some d) (q : Q d h) : (gIx (.lst ds) (.int (k : Int)) h).xp E Q := by
  show R.xp (match atI ds (k : Int) with | some d => _ | none => _) E Q
  rw [atI_nat e]
  exact q
theorem p_ixT {ds : List D} {k : Nat} {d : D} (e : ds[k]? = some d) (q : Q d h) : (gIx (.tup ds) (.int (k : Int)) h).xp E Q := by
  show R.xp (match atI ds (k : Int) with | some d => _ | none => _) E Q
  rw [atI_nat e]
  exact q
theorem p_ixScr {ds : List D} {k : Nat} {d : D} (e : ds[k]? = some d) (q : Q d h) : (gIx (.scr ds) (.int (k : Int)) h).xp E Q := by
  show R.xp (match atI ds (k : Int) with | some d => _ | none => _) E Q
  rw [atI_nat e]
  exact q
theorem p_ixR {ds : List D} {n k : Nat} {d : D} (o : h[n]? = some (.lst ds)) (e : ds[k]? = some d) (q : Q d h) : (gIx (.ref n) (.int (k : Int)) h).xp E Q := by
  have a1 : asDct (.ref n) h = none := by unfold asDct; simp only [o]
  have a2 : asSq (.ref n) h = some ds := by unfold asSq asLst; simp only [o]
  unfold gIx
  rw [a1]
  dsimp only
  rw [a2]
  dsimp only
  rw [atI_nat e]
  exact q
theorem putL_ok {n k : Nat} {ds : List D} {v : D} {h : Hs} (o : h[n]? = some (.lst ds)) (l : k < ds.length) : putL (.ref n) (.int (k : Int)) v h = some (h.set n (.lst (ds.set k v))) := by
  unfold putL mutL ixN
  simp only [o]
  rw [if_pos (by omega), if_pos (by omega)]
  rfl
/-- any of them -/
theorem p_ixA {ds : List D} (P : D → Prop) (h0 : 0 ≤ i) (h1 : i < ds.length) (hp : ∀ d ∈ ds, P d) (q : ∀ d, P d → Q d h) : (gIx (.lst ds) (.int i) h).xp E Q := by
  obtain ⟨k, rfl⟩ := Int.eq_ofNat_of_zero_le h0
  have hk : k < ds.length := by omega
  exact p_ixL (List.getElem?_eq_getElem hk) (q _ (hp _ (List.getElem_mem hk)))
/-! ### the purse: a list of three numbers -/
def Pu (n : Nat) (h : Hs) : Prop := ∃ a b c : Int, h[n]? = some (.lst [.int a, .int b, .int c])
def Up (n : Nat) (h h' : Hs) : Prop := ∃ a b c : Int, h' = h.set n (.lst [.int a, .int b, .int c])
theorem Pu.lt {n : Nat} {h : Hs} (p : Pu n h) : n < h.length := by
  obtain ⟨a, b, c, e⟩ := p
  exact (List.getElem?_eq_some_iff.mp e).1
theorem Up.refl {n : Nat} {h : Hs} (p : Pu n h) : Up n h h := by
  obtain ⟨a, b, c, e⟩ := p
  refine ⟨a, b, c, (List.ext_getElem? fun i => ?_)⟩
  by_cases hi : n = i
  · subst hi
    rw [List.getElem?_set_self (List.getElem?_eq_some_iff.mp e).1, e]
  · rw [List.getElem?_set_ne hi]
theorem Up.len {n : Nat} {h h' : Hs} (u : Up n h h') : h'.length = h.length := by
  obtain ⟨a, b, c, rfl⟩ := u
  exact List.length_set
theorem Up.pu {n : Nat} {h h' : Hs} (p : Pu n h) (u : Up n h h') : Pu n h' := by
  have l := p.lt
  obtain ⟨a, b, c, rfl⟩ := u
  exact ⟨a, b, c, List.getElem?_set_self l⟩
theorem Up.trans {n : Nat} {h h1 h2 : Hs} (u : Up n h h1) (v : Up n h1 h2) : Up n h h2 := by
  obtain ⟨a, b, c, rfl⟩ := u
  obtain ⟨a2, b2, c2, rfl⟩ := v
  exact ⟨a2, b2, c2, List.set_set ..⟩
theorem Up.app {n : Nat} {g t h' : Hs} (l : n < g.length) (u : Up n (g ++ t) h') : ∃ g', h' = g' ++ t ∧ Up n g g' := by
  obtain ⟨a, b, c, rfl⟩ := u
  exact ⟨_, List.set_append_left _ _ l, a, b, c, rfl⟩
theorem Pu.app {n : Nat} {g : Hs} (t : Hs) (p : Pu n g) : Pu n (g ++ t) := by
  have l := p.lt
  obtain ⟨a, b, c, e⟩ := p
  exact ⟨a, b, c, by rw [List.getElem?_append_left l]; exact e⟩
theorem Up.old {n : Nat} {h h' : Hs} (l : n < h.length) (u : Up n h h') : OldOk h h' := by
  obtain ⟨a, b, c, rfl⟩ := u
  intro i hi
  by_cases e : n = i
  · subst e
    exact .inr ⟨_, List.getElem?_set_self l, rfl⟩
  · exact .inl (List.getElem?_set_ne e)
end
end G

/-! G16: own exceptions over ValueError, LookupError, ArithmeticError are made and raised. -/
namespace G
open PySem PySem.Spec PyProof.Rows L2 PySem.W PySem.Calls Builtin Builtin.ObjectAttr
/-- what stands of such a class -/
structure XcF (K : PySem.W.Frag) (C : Addr) : Prop where
  base : ∃ (B newId initId : String) (bmB : List Value), ExcBaseFacts B newId initId bmB ∧ StoreFacts B bmB "object.__setattr__" "object" ∧ excInitIn K C bmB newId = true ∧ excOver K C bmB = true
  hd : hasDictIn K C = true
  sa : findIn K (.ref C) "__setattr__" = some (some (.builtin "object.__setattr__"))
  exC : subIn K (.ref C) (.type "BaseException") = some true
  tyC : typeIn K (.ref C) = some (.type "type")
  kC : keepIn K (.ref C) = true
/-- the own dict is written, the first time and later -/
theorem xo_first {prog : Program} {w : World} {A : Around} {R : Result → Shared → Prop} {hp : Heap} {g : Array GenState} {d : Drawn} {t : Nat} {os : OsState} {K : PySem.W.Frag} {nm : Str} {tk : Tok} {v : Value} {x C : Addr} {fv : Array Value} {B : String} {bmB : List Value} {cd : ClassData}
    (SF : StoreFacts B bmB "object.__setattr__" "object") (X : K.In hp) (hx : hp.get? x = some { cls := .ref C, data := .fields fv }) (ov : excOver K C bmB = true) (hc : clsIn K C = some cd) (hh : cd.hasDict = true) (hf : findIn K (.ref C) nm = some none)
    (q : ∀ h2 t2 dx, (∀ b o, b ≠ x → hp.get? b = some o → h2.get? b = some o) → hp.objs.size ≤ dx → dx ≠ x → h2.get? x = some { cls := .ref C, dict := some dx, data := .fields fv } → h2.Ns1 dx (fun y => if y = nm then some v else none) → R (.ok (.ret .none)) ⟨h2, g, d, t2, os⟩) :
    codeAny (model prog w) A (.call (.builtin "object.__setattr__") ⟨[.ref x, .str nm tk, v], []⟩) R ⟨hp, g, d, t, os⟩ := by
  have lx : x ≠ hp.objs.size := Nat.ne_of_lt (Heap.lt_size hx)
  refine osa_openX (s := ⟨hp, g, d, t, os⟩) (ox := { cls := .ref C, data := .fields fv }) (od := none) (r := none) SF X ⟨hx, rfl, rfl, trivial⟩ ov (by unfold takerIn; rw [hf]; rfl) fun b => ?_
  have lc : Looks (model prog w) hp (classData C) cd := looks_clsIn X hc
  obtain ⟨nm0, bs, mro, ns, qn, hd, sn, sb, ab, col, del⟩ := cd
  have e : hd = true := hh
  subst e
  dsimp only
  unfold storeInOwnDict ownDictForStores
  repeat (first | with_reducible refine HandSPX.store_in_new ?_ ?_ | with_reducible refine wpAny_loadPart_at hx ?_ | with_reducible refine lc.at ?_ | wp_step)
  · exact ⟨_, #[], _, (Heap.get?_update_ne _ _ _ _ (Ne.symm lx)).trans (Heap.get?_push_at rfl rfl), rfl, fun e he => absurd he (by simp), fun _ => rfl⟩
  · intro h2 t2 n2 s2
    have p1 : (hp.push { cls := .type "dict", data := .dict #[] }).get? x = some { cls := .ref C, data := .fields fv } := Heap.get?_push_of_some _ hx
    exact q h2 t2 hp.objs.size (fun b o hb ho => (s2.2 b (Nat.ne_of_lt (Heap.lt_size ho))).trans ((Heap.get?_update_ne _ _ _ _ hb).trans (Heap.get?_push_of_some _ ho))) (Nat.le_refl _) (Ne.symm lx)
      ((s2.2 x lx).trans (Heap.get?_update_self _ p1 rfl)) n2
theorem xo_more {prog : Program} {w : World} {A : Around} {R : Result → Shared → Prop} {hp : Heap} {g : Array GenState} {d : Drawn} {t : Nat} {os : OsState} {K : PySem.W.Frag} {nm : Str} {tk : Tok} {v : Value} {x C dx : Addr} {fv : Array Value} {B : String} {bmB : List Value} {cd : ClassData} {m0 : Str → Option Value} {nl : List Str}
    (SF : StoreFacts B bmB "object.__setattr__" "object") (X : K.In hp) (hx : hp.get? x = some { cls := .ref C, dict := some dx, data := .fields fv }) (hn : hp.Ns1 dx m0) (hw : Within m0 nl) (hz : nl.length ≤ 1000) (ov : excOver K C bmB = true) (hc : clsIn K C = some cd) (hh : cd.hasDict = true) (hf : findIn K (.ref C) nm = some none)
    (q : ∀ h2 t2, (∀ b o, b ≠ dx → hp.get? b = some o → h2.get? b = some o) → h2.Ns1 dx (fun y => if y = nm then some v else m0 y) → R (.ok (.ret .none)) ⟨h2, g, d, t2, os⟩) :
    codeAny (model prog w) A (.call (.builtin "object.__setattr__") ⟨[.ref x, .str nm tk, v], []⟩) R ⟨hp, g, d, t, os⟩ := by
  obtain ⟨oD, _, _, hoD, _, _⟩ := hn.count hw
  refine osa_openX (s := ⟨hp, g, d, t, os⟩) (ox := { cls := .ref C, dict := some dx, data := .fields fv }) (od := some oD) (r := none) SF X ⟨hx, rfl, rfl, hoD⟩ ov (by unfold takerIn; rw [hf]; rfl) fun b => ?_
  have lc : Looks (model prog w) hp (classData C) cd := looks_clsIn X hc
  obtain ⟨nm0, bs, mro, ns, qn, hd, sn, sb, ab, col, del⟩ := cd
  have e : hd = true := hh
  subst e
  dsimp only
  unfold storeInOwnDict ownDictForStores
  repeat (first | with_reducible refine PySem.OEX.store_in_old hn hw hz ?_ | with_reducible refine wpAny_loadPart_at hx ?_ | with_reducible refine lc.at ?_ | wp_step)
  intro h2 t2 n2 s2
  exact q h2 t2 (fun b o hb ho => (s2.2 b hb).trans ho) n2
section
variable {X : Cx} {pins : List (Addr × Obj)} {σ : Sl} {H : Hp} {s : Shared} {a C dx : Addr} {f : Str} {y : V} {u : Value} {fs : List (Str × V)} {Q : Unit → Shared → Prop} {E : Value → Shared → Prop} {A : Around}
theorem XcF.cd {K : PySem.W.Frag} (T : XcF K C) : ∃ cd, clsIn K C = some cd ∧ cd.hasDict = true := any_some T.hd
theorem xs_first (T : XcF X.K C) (I : Inv X pins σ H s) (e : H a = some (exo a C none)) (hno : findIn X.K (.ref C) f = some none) (ry : RelV y u)
    (k : ∀ dx s2, H dx = none → dx ≠ a → Inv X pins σ (upd (upd H dx (exd dx [(f, y)])) a (exo a C (some dx))) s2 → Q () s2) : wpAny (model X.prog X.w) A (setAttr (.ref a) f u) Q E s := by
  obtain ⟨B, nI, iI, bmB, FB, SF, q1, q2⟩ := T.base
  obtain ⟨cd, hc, hh⟩ := T.cd
  obtain ⟨t1, ho⟩ := exo_at I.hok e
  obtain ⟨hp, g, d, t, os⟩ := s
  refine set_plain I.kIn (od := none) ⟨ho, rfl, rfl, trivial⟩ T.sa (xo_first SF I.kIn ho q2 hc hh hno fun h2 t2 dx kp dn dne hx hn => ?_)
  have hnd : H dx = none := I.hok.fresh dn
  have nd {b : Addr} {o : Obj} (q : hp.get? b = some o) : b ≠ dx := Nat.ne_of_lt (Nat.lt_of_lt_of_le (Heap.lt_size q) dn)
  have na {b : Addr} (n : H b = none) : b ≠ a := fun z => by rw [z, e] at n; cases n
  have U : Un X.fs [] H (upd (upd H dx (exd dx [(f, y)])) a (exo a C (some dx))) hp h2 := by
    refine ⟨fun b o q n _ _ => kp b o (na n) q, fun b o q n _ _ => ⟨o.slots, kp b o (na n) q⟩, fun b o q n _ => ?_, fun b o q _ => ?_, fun b xs q => ?_, fun b o v q => ?_, fun b ps q => ⟨#[], ?_⟩⟩
    · rw [upd_ne (na n), upd_ne (nd q)]; exact n
    · by_cases hb : b = a
      · exact ⟨_, by rw [hb]; exact hx⟩
      · exact ⟨o, kp b o hb q⟩
    · rw [upd_ne (at_ne e q exo_tup), upd_ne (ne_of_none q hnd)]; exact q
    · rw [upd_ne (at_ne e q exo_frz), upd_ne (ne_of_none q hnd)]; exact q
    · rw [upd_ne (at_ne e q exo_tbl), upd_ne (ne_of_none q hnd), q]; simp
  refine k dx _ hnd dne (I.un (t' := t2) U fun b o q => ?_)
  by_cases hb : b = a
  · subst hb; rw [upd_same] at q; cases q; exact exo_ok hx
  rw [upd_ne hb] at q
  by_cases hd : b = dx
  · subst hd; rw [upd_same] at q; cases q; exact exd_ok hn (relO_put (fs := []) ry fun _ => True.intro)
  rw [upd_ne hd] at q
  refine (I.hok b o q).stay (fun c v hc z => kp c v (hc.elim (fun r => by rw [r]; exact hb) fun r => at_ne e r exo_own) z) (fun c r => ?_) fun c xs r => ?_
  · rw [upd_ne (at_ne e r exo_own), upd_ne (ne_of_none r hnd)]; exact r
  · rw [upd_ne (at_ne e r exo_tup), upd_ne (ne_of_none r hnd)]; exact r
theorem xs_more (T : XcF X.K C) (I : Inv X pins σ H s) (e : H a = some (exo a C (some dx))) (ed : H dx = some (exd dx fs)) (hl : fs.length ≤ 900) (hno : findIn X.K (.ref C) f = some none) (ry : RelV y u)
    (k : ∀ s2, Inv X pins σ (upd H dx (exd dx ((f, y) :: fs))) s2 → Q () s2) : wpAny (model X.prog X.w) A (setAttr (.ref a) f u) Q E s := by
  obtain ⟨B, nI, iI, bmB, FB, SF, q1, q2⟩ := T.base
  obtain ⟨cd, hc, hh⟩ := T.cd
  obtain ⟨t1, ho⟩ := exo_at I.hok e
  obtain ⟨mA, hns, rel⟩ := exd_at I.hok ed
  have hw := within_of rel
  obtain ⟨hp, g, d, t, os⟩ := s
  obtain ⟨oD, _, _, hoD, _, _⟩ := hns.count hw
  refine set_plain I.kIn (od := some oD) ⟨ho, rfl, rfl, hoD⟩ T.sa (xo_more SF I.kIn ho hns hw (by rw [List.length_map]; omega) q2 hc hh hno fun h2 t2 kp hn => ?_)
  obtain ⟨o, es, ep, eo, er⟩ := id hn
  exact k _ (I.write (t' := t2) (x := dx) (e := dx) (o := exd dx ((f, y) :: fs)) (by rw [ed]; trivial) (.inl rfl) kp ⟨o, eo⟩ (exd_ok hn (relO_put ry rel)))
end
/-- self.f = e, in such an __init__ -/
def tXst (K : PySem.W.Frag) (f : Str) (to te : TE) : TS := fun D σ H => te σ H fun y H1 => to σ H1 fun x H2 => ∃ a C : Addr, x = .ref a ∧ XcF K C ∧ findIn K (.ref C) f = some none ∧
  ((H2 a = some (exo a C none) ∧ ∀ dx, H2 dx = none → dx ≠ a → D.nx σ (upd (upd H2 dx (exd dx [(f, y)])) a (exo a C (some dx)))) ∨
   ∃ (dx : Addr) (fs : List (Str × V)), H2 a = some (exo a C (some dx)) ∧ H2 dx = some (exd dx fs) ∧ fs.length ≤ 900 ∧ D.nx σ (upd H2 dx (exd dx ((f, y) :: fs))))
theorem ps_xst {X : Cx} {o e : Expr} {to te : TE} {f : Str} {p' pos : Pos} (ho : PE X o to) (he : PE X e te) (hs : swapsWith e (some (.Attribute o f p')) pos.line X.env = pure false := by rfl) : PS X (.Assign [.Attribute o f p'] e pos) (tXst X.K f to te) :=
  ⟨fun pins s σ H D I h => plainObj_wpAny_Assign_Attribute (thn (he.run pins s σ H _ I h) fun v s1 ⟨y, H1, I1, r1, q1⟩ => thn (ho.run pins s1 σ H1 _ I1 q1) fun u s2 ⟨x, H2, I2, r2, a, C, ex, T, hno, q⟩ => by
    subst ex
    cases (show u = Value.ref a from r2)
    rcases q with ⟨ea, q⟩ | ⟨dx, fs, ea, ed, hl, q⟩
    · exact xs_first T I2 ea hno r1 fun dx s' n ne J => ⟨σ, _, J, q dx n ne⟩
    · exact xs_more T I2 ea ed hl hno r1 fun s' J => ⟨σ, _, J, q⟩) hs⟩
/-- C(e, ..) of such a class, its __init__ keeping sp -/
theorem pmk_x {X : Cx} {e : Expr} {es : List Expr} {ta : TA} {p pos : Pos} {CX : CXT} {x : Str} {C fI : Addr} {k : Nat} {fd : FuncData} {ps : List Str} {sp : Sp} (T : XcF X.K C) (iC : findIn X.K (.ref C) "__init__" = some (some (.ref fI))) (tI : typeIn X.K (.ref fI) = some (.type "function"))
    (F1 : FnOk X.prog X.w X.K X.mg X.base CX k fI fd ps sp) (hr : Room (k + 1) X.A) (hb : Binds X.K fd ps []) (hx : Passes CX X (fun _ _ _ => False)) (hg : Gl X x) (hm : X.mg x = some (.ref C)) (ha : PA X (e :: es) ta)
    (hdb : (x == ("__debug__" : Str)) = false := by decide) (he : starEach (e :: es) X.env = (false, eval e X.env) :: starEach es X.env := by rfl) (hpl : (backTo pos (starEach es X.env)).any (·.1) = false := by rfl) :
    PMk X (.Call (.Name x p) (e :: es) [] pos) (tMkO C sp [] ta) := by
  intro pins s σ H Q I h
  obtain ⟨B, nI, iI, bmB, FB, SF, q1, q2⟩ := T.base
  refine wpAny_Call_Name_kw (ld_glob I hg hm (callWith_K (h₀ := X.base) I.ok.mod.kin T.kC (thn (ha.run pos pins s σ H _ I h) fun us s1 ⟨vs, H1, I1, r1, hz, q1'⟩ => ⟨I1.kIn, ?_⟩) he hpl) hdb)
  show wpAny _ _ (call (.ref C) us) _ _ _
  obtain ⟨nm, N', qn, bs, bm, hdct, sn, sub, ab, col, dd, k0, k1, k2, k3, k5, hC, hT⟩ := excInit_of I1.kIn q1
  obtain ⟨hp, g, dr, tk, os⟩ := s1
  have hsz : hp.objs.size ≤ hp.objs.size + 1 := Nat.le_succ _
  have hq := q1' (hp.objs.size + 1) (I1.hok.fresh hsz)
  rw [List.append_nil] at hq
  have kk : ∀ b o, hp.get? b = some o → ((hp.push (kdv_tup us)).push (HandSPX.excO C hp.objs.size)).get? b = some o := fun b o z => Heap.get?_push_of_some _ (Heap.get?_push_of_some _ z)
  have I2 : Inv X pins σ (upd H1 (hp.objs.size + 1) (exo (hp.objs.size + 1) C none)) ⟨(hp.push (kdv_tup us)).push (HandSPX.excO C hp.objs.size), g, dr, tk, os⟩ :=
    I1.laid (t' := tk) kk hsz (exo_ok (show ((hp.push (kdv_tup us)).push (HandSPX.excO C hp.objs.size)).get? (hp.objs.size + 1) = some (HandSPX.excO C hp.objs.size) by heap_get))
  have r2 : Vals (V.ref (hp.objs.size + 1) :: vs) (Value.ref (hp.objs.size + 1) :: us) := .cons rfl r1
  have hl : (Value.ref (hp.objs.size + 1) :: us).length = ps.length := r2.length.symm.trans (F1.len _ _ _ _ hq)
  have hus : us.length ≤ sizeLine := by rw [← Paired.length r1, sizeLine_eq]; omega
  have hbi := hb ⟨(hp.push (kdv_tup us)).push (HandSPX.excO C hp.objs.size), g, dr, tk, os⟩ (Value.ref (hp.objs.size + 1) :: us) I2.kIn (by rw [List.append_nil]; exact hl)
  rw [List.append_nil] at hbi
  refine wpAny_call (HandSPX.call_own FB hT hC (looks_findIn I1.kIn iC) (fun self => bind_fn I1.kIn self tI) hus
    (codeAny_mono (F1.run _ X.stack _ _ ⟨Value.ref (hp.objs.size + 1) :: us, []⟩ _ _ _ (fun _ _ _ => False) (hr.make C us []) (I2.env0.make C us []) hbi r2 hq) fun r s' z => ?_))
  cases r with
  | error er => exact hx pins σ _ _ er s' I2 z
  | ok fl => cases fl with
    | ret u =>
      obtain ⟨v, H2, os2, bare2, un2, hok2, rv, ev, d, fs, ea, ed, hd1, q2⟩ := z
      subst ev
      exact ⟨rv, mk_end (raises_own T.exC T.tyC) I1 hsz kk un2 hok2 os2 bare2 ea ed hd1 q2⟩
    | next => exact False.elim z
    | brk => exact False.elim z
    | cont => exact False.elim z
/-! ### the __init__ that keeps one value, two -/
def spI1 (K : PySem.W.Frag) (f : Str) : Sp := fun vs H Q _ => ∃ (a C : Addr) (y : V), vs = [.ref a, y] ∧ XcF K C ∧ findIn K (.ref C) f = some none ∧ H a = some (exo a C none) ∧
  ∀ dx, H dx = none → dx ≠ a → Q .non (upd (upd H dx (exd dx [(f, y)])) a (exo a C (some dx)))
def spI2 (K : PySem.W.Frag) (f g : Str) : Sp := fun vs H Q _ => ∃ (a C : Addr) (y z : V), vs = [.ref a, y, z] ∧ XcF K C ∧ findIn K (.ref C) f = some none ∧ findIn K (.ref C) g = some none ∧ H a = some (exo a C none) ∧
  ∀ dx, H dx = none → dx ≠ a → Q .non (upd (upd (upd H dx (exd dx [(f, y)])) a (exo a C (some dx))) dx (exd dx [(g, z), (f, y)]))
section
variable {P : Program} {w : World} {K : PySem.W.Frag} {mg : Str → Option Value} {base : Heap} {x qual : Str} {params : Arguments} {scope : Scope} {dvs : List V} {kws : List (Str × V)} {fI : Addr} {fd : FuncData}
theorem init1_ok {f s0 x0 : Str} {p1 p2 p3 p4 : Pos} (F : FunD K x qual params [.Assign [.Attribute (.Name s0 p1) f p2] (.Name x0 p3) p4] scope dvs kws fI fd) (S : FnScope [s0, x0] [s0, x0] scope) (l0 : scope.names.lookup s0 = some .local) (l1 : scope.names.lookup x0 = some .local)
    (d0 : (s0 == ("__debug__" : Str)) = false := by decide) (d1 : (x0 == ("__debug__" : Str)) = false := by decide) (c0 : (s0 == ("__classdict__" : Str)) = false := by decide) (c1 : (x0 == ("__classdict__" : Str)) = false := by decide) :
    FnOk P w K mg base (L2.CX P w) 1 fI fd [s0, x0] (spI1 K f) := by
  refine F.ok S (fun vs H Q E ⟨a, C, y, e, _⟩ => by rw [e]; rfl) fun cdv A outer s H vs Q E hr ⟨a, C, y, e, T, hf, ha, k⟩ => ?_
  subst e
  refine ⟨_, pss_one (ps_xst (pe_var (i := 0) rfl (.inl l0) d0 c0) (pe_var (i := 1) rfl (.inl l1) d1 c1)), ?_⟩
  exact ⟨_, rfl, _, rfl, a, C, rfl, T, hf, .inl ⟨ha, fun dx h1 h2 => k dx h1 h2⟩⟩
theorem init2_ok {f g s0 x0 x1 : Str} {p1 p2 p3 p4 q1 q2 q3 q4 : Pos} (F : FunD K x qual params [.Assign [.Attribute (.Name s0 p1) f p2] (.Name x0 p3) p4, .Assign [.Attribute (.Name s0 q1) g q2] (.Name x1 q3) q4] scope dvs kws fI fd) (S : FnScope [s0, x0, x1] [s0, x0, x1] scope)
    (l0 : scope.names.lookup s0 = some .local) (l1 : scope.names.lookup x0 = some .local) (l2 : scope.names.lookup x1 = some .local)
    (d0 : (s0 == ("__debug__" : Str)) = false := by decide) (d1 : (x0 == ("__debug__" : Str)) = false := by decide) (d2 : (x1 == ("__debug__" : Str)) = false := by decide) (c0 : (s0 == ("__classdict__" : Str)) = false := by decide) (c1 : (x0 == ("__classdict__" : Str)) = false := by decide) (c2 : (x1 == ("__classdict__" : Str)) = false := by decide) :
    FnOk P w K mg base (L2.CX P w) 1 fI fd [s0, x0, x1] (spI2 K f g) := by
  refine F.ok S (fun vs H Q E ⟨a, C, y, z, e, _⟩ => by rw [e]; rfl) fun cdv A outer s H vs Q E hr ⟨a, C, y, z, e, T, hf, hg, ha, k⟩ => ?_
  subst e
  refine ⟨_, pss_cons (ps_xst (pe_var (i := 0) rfl (.inl l0) d0 c0) (pe_var (i := 1) rfl (.inl l1) d1 c1)) (pss_one (ps_xst (pe_var (i := 0) rfl (.inl l0) d0 c0) (pe_var (i := 2) rfl (.inl l2) d2 c2))), ?_⟩
  refine ⟨_, rfl, _, rfl, a, C, rfl, T, hf, .inl ⟨ha, fun dx h1 h2 => ?_⟩⟩
  exact ⟨_, rfl, _, rfl, a, C, rfl, T, hg, .inr ⟨dx, [(f, y)], upd_same, by rw [upd_ne h2]; exact upd_same, Nat.le_of_ble_eq_true rfl, k dx h1 h2⟩⟩
end
/-! ### raise C(e, ..) -/
/-- the fields' names, the last stored first -/
def sRaise (c : Str) (fl : List Str) (fa : SA) : SS := fun ρ h => (fa ρ h).toS ρ fun ds h1 => if ds.length = fl.length then .er (.ins c (fl.zip ds).reverse) ρ h1 else .no
/-- what is known of a class with fields -/
structure ExI (P : Program) (w : World) (K : PySem.W.Frag) (mg : Str → Option Value) (base : Heap) (c : Str) (C : Addr) : Prop where
  gl : mg c = some (.ref C)
  T : XcF K C
theorem rds_one {K : PySem.W.Frag} {mg : Str → Option Value} {m : List Addr} {H : Hp} {ds : List D} {vs : List V} (h : RDs K mg m H ds vs) (l : ds.length = 1) : ∃ d v, ds = [d] ∧ vs = [v] ∧ RD K mg m H d v := by
  match ds, l with
  | [d], _ =>
    obtain ⟨v, rfl, r⟩ := h.one
    exact ⟨d, v, rfl, rfl, r⟩
theorem rds_two {K : PySem.W.Frag} {mg : Str → Option Value} {m : List Addr} {H : Hp} {ds : List D} {vs : List V} (h : RDs K mg m H ds vs) (l : ds.length = 2) : ∃ d e v u, ds = [d, e] ∧ vs = [v, u] ∧ RD K mg m H d v ∧ RD K mg m H e u := by
  match ds, l with
  | [d, e], _ =>
    obtain ⟨v, u, rfl, r, q⟩ := h.two
    exact ⟨d, e, v, u, rfl, rfl, r, q⟩
section
variable {X : Cx} {e : Expr} {es : List Expr} {c f g : Str} {C fI : Addr} {fa : SA} {fd : FuncData} {ps : List Str} {p pos pos2 : Pos} {k : Nat}
theorem upd_del {H1 : Hp} {a d : Addr} {C : Addr} {fs gs : List (Str × V)} (n : H1 a = none) (ne : d ≠ a) : upd (del (upd (upd (upd H1 a (exo a C none)) d (exd d gs)) a (exo a C (some d))) a) d (.xd fs) = upd H1 d (.xd fs) := by
  funext b
  by_cases hd : b = d
  · subst hd; rw [upd_same, upd_same]
  rw [upd_ne hd, upd_ne hd]
  by_cases ha : b = a
  · subst ha; rw [del_same, n]
  rw [del_ne ha, upd_ne ha, upd_ne hd, upd_ne ha]
theorem upd_del2 {H1 : Hp} {a d : Addr} {C : Addr} {fs gs js : List (Str × V)} (n : H1 a = none) (ne : d ≠ a) : upd (del (upd (upd (upd (upd H1 a (exo a C none)) d (exd d gs)) a (exo a C (some d))) d (exd d js)) a) d (.xd fs) = upd H1 d (.xd fs) := by
  funext b
  by_cases hd : b = d
  · subst hd; rw [upd_same, upd_same]
  rw [upd_ne hd, upd_ne hd]
  by_cases ha : b = a
  · subst ha; rw [del_same, n]
  rw [del_ne ha, upd_ne hd, upd_ne ha, upd_ne hd, upd_ne ha]
theorem raise_end {W : WX} {m1 : List Addr} {H1 : Hp} {h1 : Hs} {ρ : Ev} {σ : Sl} {DD : Ends} {fs : List (Str × G.D)} {ys : List (Str × V)} {d : Addr} (hm : X.mg c = some (.ref C)) (r1 : Rel X.K X.mg m1 H1 h1) (en : REnv X.K X.mg m1 H1 ρ σ) (hd : H1 d = none)
    (rf : RDf X.K X.mg m1 H1 fs ys) (po : PoS X.K X.mg m1 H1 (.er (.ins c fs) ρ h1) DD W) : W (.ref C) (some d) σ (upd H1 d (.xd ys)) :=
  po m1 _ σ _ _ (Ext.new hd) (r1.new hd) (en.ext (Ext.new hd)) ⟨c, fs, C, rfl, hm, rfl, .inr ⟨d, ys, rfl, upd_same, RDf.ext (Ext.new hd) _ _ rf⟩⟩
theorem rs_raise1 (T : XcF X.K C) (iC : findIn X.K (.ref C) "__init__" = some (some (.ref fI))) (tI : typeIn X.K (.ref fI) = some (.type "function")) (F1 : FnOk X.prog X.w X.K X.mg X.base (L2.CX X.prog X.w) 1 fI fd ps (spI1 X.K f)) (hf : findIn X.K (.ref C) f = some none)
    {j : Nat} (hr : RoomG j X.A) (hj : 2 ≤ j) (hb : Binds X.K fd ps []) (hc : X.calm = true) (hg : Gl X c) (hm : X.mg c = some (.ref C)) (ha : RA X [e] fa)
    (hdb : (c == ("__debug__" : Str)) = false := by decide) (he : starEach [e] X.env = (false, eval e X.env) :: starEach [] X.env := by rfl) (hpl : (backTo pos (starEach [] X.env)).any (·.1) = false := by rfl) :
    RSt X (.Raise (some (.Call (.Name c p) [e] [] pos)) none pos2) (sRaise c [f] fa) :=
  ⟨fun W tk => ps_imp (ps_raise hc tk (pmk_x T iC tI F1 (hr.room.mono hj) hb (passes_call tk fun _ _ _ _ z => z.elim) hg hm (ha.run W tk) hdb he hpl)) fun D σ H ⟨m, ρ, h, rl, en, po⟩ => by
    refine ⟨m, ρ, h, rl, en, (po.toS en).mono (fun vs H1 ⟨m1, ds, h1, e1, r1, rd, p1⟩ => ?_) fun _ _ _ z => z⟩
    split at p1
    · rename_i hl
      obtain ⟨d, v, rfl, rfl, r⟩ := rds_one rd hl
      refine ⟨Nat.le_of_ble_eq_true rfl, fun a ha => ⟨a, C, v, rfl, T, hf, upd_same, fun dx h1 h2 => ?_⟩⟩
      have hd : H1 dx = none := by rw [upd_ne h2] at h1; exact h1
      refine ⟨rfl, dx, [(f, v)], upd_same, by rw [upd_ne h2]; exact upd_same, hd, ?_⟩
      rw [upd_del ha h2]
      exact raise_end hm r1 (en.ext e1) hd (show RDf X.K X.mg m1 H1 [(f, d)] [(f, v)] by simp only [RDf]; exact ⟨v, [], rfl, r, rfl⟩) p1
    · exact p1.elim⟩
theorem rs_raise2 {e2 : Expr} (T : XcF X.K C) (iC : findIn X.K (.ref C) "__init__" = some (some (.ref fI))) (tI : typeIn X.K (.ref fI) = some (.type "function")) (F1 : FnOk X.prog X.w X.K X.mg X.base (L2.CX X.prog X.w) 1 fI fd ps (spI2 X.K f g)) (hf : findIn X.K (.ref C) f = some none) (hg2 : findIn X.K (.ref C) g = some none)
    {j : Nat} (hr : RoomG j X.A) (hj : 2 ≤ j) (hb : Binds X.K fd ps []) (hc : X.calm = true) (hg : Gl X c) (hm : X.mg c = some (.ref C)) (ha : RA X [e, e2] fa)
    (hdb : (c == ("__debug__" : Str)) = false := by decide) (he : starEach [e, e2] X.env = (false, eval e X.env) :: starEach [e2] X.env := by rfl) (hpl : (backTo pos (starEach [e2] X.env)).any (·.1) = false := by rfl) :
    RSt X (.Raise (some (.Call (.Name c p) [e, e2] [] pos)) none pos2) (sRaise c [f, g] fa) :=
  ⟨fun W tk => ps_imp (ps_raise hc tk (pmk_x T iC tI F1 (hr.room.mono hj) hb (passes_call tk fun _ _ _ _ z => z.elim) hg hm (ha.run W tk) hdb he hpl)) fun D σ H ⟨m, ρ, h, rl, en, po⟩ => by
    refine ⟨m, ρ, h, rl, en, (po.toS en).mono (fun vs H1 ⟨m1, ds, h1, e1, r1, rd, p1⟩ => ?_) fun _ _ _ z => z⟩
    split at p1
    · rename_i hl
      obtain ⟨d, d2, v, v2, rfl, rfl, r, r2⟩ := rds_two rd hl
      refine ⟨Nat.le_of_ble_eq_true rfl, fun a ha => ⟨a, C, v, v2, rfl, T, hf, hg2, upd_same, fun dx h1 h2 => ?_⟩⟩
      have hd : H1 dx = none := by rw [upd_ne h2] at h1; exact h1
      refine ⟨rfl, dx, [(g, v2), (f, v)], by rw [upd_ne (Ne.symm h2)]; exact upd_same, upd_same, hd, ?_⟩
      rw [upd_del2 ha h2]
      exact raise_end hm r1 (en.ext e1) hd (show RDf X.K X.mg m1 H1 [(g, d2), (f, d)] [(g, v2), (f, v)] by simp only [RDf]; exact ⟨v2, _, rfl, r2, v, [], rfl, r, rfl⟩) p1
    · exact p1.elim⟩
end
end G

/-! G17: try, except (A, B) as e; what a suite does with e; defs that a suite calls. -/
namespace G
open PySem PySem.Spec PyProof.Rows L2 PySem.W PySem.Calls
/-! ### the clauses' tests -/
def HTest (X : Cx) (t : Expr) (tst : Value → Bool → Prop) : Prop := ∀ (a : Addr) (pn pins : List (Addr × Obj)) (s : Shared) (σ : Sl) (H : Hp) (cls : Value) (b : Bool) (Q : Bool → Shared → Prop) (E : Value → Shared → Prop),
  Inv (X.suite a pn) pins σ H s → tst cls b → Looks (model X.prog X.w) s.heap (typeOf (.ref a)) cls → (∀ h2, (∀ q o, s.heap.get? q = some o → h2.get? q = some o) → Q b { s with heap := h2 }) →
  wpAny (model X.prog X.w) (X.A.mark (some (.ref a))) (eval t X.env) (fun c s1 => wpAny (model X.prog X.w) (X.A.mark (some (.ref a))) (excMatches (.ref a) c) Q E s1) E s
section
variable {X : Cx}
theorem ev_name {x : Str} {c : Value} {np : Pos} {a : Addr} {pn pins : List (Addr × Obj)} {s : Shared} {σ : Sl} {H : Hp} {Q E : Value → Shared → Prop} (n : Names X x c) (I : Inv (X.suite a pn) pins σ H s) (q : Q c s) :
    wpAny (model X.prog X.w) (X.A.mark (some (.ref a))) (eval (.Name x np) X.env) Q E s := by
  obtain ⟨hg, hd, hm | ⟨hm, hv, hn⟩⟩ := n
  · exact ld_glob (X := X.suite a pn) I hg hm q hd
  · exact ld_blt (X := X.suite a pn) I hg hm hv q hn hd
theorem ht_one {x : Str} {c : Value} {np : Pos} (n : Names X x c) : HTest X (.Name x np) (fun cls b => exmOne X.K cls c = some b) := fun a pn pins s σ H cls b Q E I ht LT q =>
  ev_name n I ((exm_one (M := model X.prog X.w) I.kIn LT ht).here (q s.heap fun _ _ z => z))
theorem ht_two {x y : Str} {c d : Value} {p1 p2 tp : Pos} {kk : Nat} (n : Names X x c) (n2 : Names X y d) : HTest X (.Tuple [.Name x p1, .Name y p2] kk tp) (fun cls b => exmAny X.K cls [c, d] = some b) := fun a pn pins s σ H cls b Q E I ht LT q => by
  refine wpAny_Tuple (wpAny_items_cons (ev_name n I (wpAny_items_cons (ev_name n2 I (wpAny_items_nil ⟨by size_fits, ?_⟩)))))
  have kp : ∀ r o, s.heap.get? r = some o → (s.heap.push { cls := .type "tuple", data := .seq [c, d].toArray }).get? r = some o := fun _ _ z => Heap.get?_push_of_some _ z
  exact (exm_tup2 (I.kIn.keeps kp) (LT.keeps kp) (Heap.get?_push_size s.heap rfl) ht).here (q _ kp)
theorem ht_three {x y z : Str} {c d e : Value} {p1 p2 p3 tp : Pos} {kk : Nat} (n : Names X x c) (n2 : Names X y d) (n3 : Names X z e) : HTest X (.Tuple [.Name x p1, .Name y p2, .Name z p3] kk tp) (fun cls b => exmAny X.K cls [c, d, e] = some b) := fun a pn pins s σ H cls b Q E I ht LT q => by
  refine wpAny_Tuple (wpAny_items_cons (ev_name n I (wpAny_items_cons (ev_name n2 I (wpAny_items_cons (ev_name n3 I (wpAny_items_nil ⟨by size_fits, ?_⟩)))))))
  have kp : ∀ r o, s.heap.get? r = some o → (s.heap.push { cls := .type "tuple", data := .seq [c, d, e].toArray }).get? r = some o := fun _ _ z => Heap.get?_push_of_some _ z
  exact (exm_tup3 (I.kIn.keeps kp) (LT.keeps kp) (Heap.get?_push_size s.heap rfl) ht).here (q _ kp)
end
/-! ### the clauses -/
abbrev TC := Addr → Value → Option Addr → TS
def gone (i : Nat) (D : Ends) : Ends := { nx := fun σ H => D.nx (σ.set i none) H, rt := D.rt, bk := fun σ H => D.bk (σ.set i none) H, ct := fun σ H => D.ct (σ.set i none) H }
def wG (Wout : WX) (D : Ends) : List ((Value → Bool → Prop) × TC) → WX
  | [] => Wout
  | (tst, ts) :: r => fun cls d σ H => ∃ b, tst cls b ∧ (b = true → ∀ a, H a = none → ts a cls d D σ H) ∧ (b = false → wG Wout D r cls d σ H)
inductive HdG (X : Cx) : List ExceptHandler → List ((Value → Bool → Prop) × TC) → Prop
  | nil : HdG X [] []
  | bare {t : Expr} {tst : Value → Bool → Prop} {ts : TC} {b0 : Stmt} {suite : List Stmt} {pos : Pos} {hds : List ExceptHandler} {l : List ((Value → Bool → Prop) × TC)} (ht : HTest X t tst)
      (hs : ∀ (a : Addr) (oe : Obj) (cls : Value) (d : Option Addr) (pn : List (Addr × Obj)), Zc cls d oe → (∃ vs, oe.data = .fields vs) → PSs (X.suite a ((a, oe) :: pn)) (b0 :: suite) (ts a cls d)) (r : HdG X hds l) :
      HdG X (.ExceptHandler (some t) none (b0 :: suite) pos :: hds) ((tst, ts) :: l)
  | as {i : Nat} {n : Str} {t : Expr} {tst : Value → Bool → Prop} {ts : TC} {b0 : Stmt} {suite : List Stmt} {pos : Pos} {hds : List ExceptHandler} {l : List ((Value → Bool → Prop) × TC)} (hN : X.N.Nodup) (hi : X.N[i]? = some n) (hl : X.env.kindOf n = some .local) (ht : HTest X t tst)
      (hs : ∀ (a : Addr) (oe : Obj) (cls : Value) (d : Option Addr) (pn : List (Addr × Obj)), Zc cls d oe → (∃ vs, oe.data = .fields vs) → PSs (X.suite a ((a, oe) :: pn)) (b0 :: suite) (ts a cls d)) (r : HdG X hds l) :
      HdG X (.ExceptHandler (some t) (some n) (b0 :: suite) pos :: hds) ((tst, fun a cls d D σ H => ts a cls d (gone i D) (σ.set i (some (.ref a))) H) :: l)
theorem fly_keep {B : Heap} {l : List Env} {a : Addr} {Z : Obj → Prop} {h h2 : Heap} (f : HandSPX.FlyingZ B l a Z h) (k : ∀ b o, h.get? b = some o → h2.get? b = some o) : HandSPX.FlyingZ B l a Z h2 := by
  obtain ⟨f1, f2, f3, oe, vs, T, oT, ts, e1, e2, e3, e4, e5, e6, e7, e8, e9⟩ := f
  exact ⟨fun b o z => k b o (f1 b o z), f2, Heap.FunFrames.of_keeps (fun b o z _ => ⟨o, k b o z, rfl⟩) f3, oe, vs, T, oT, ts, k _ _ e1, e2, e3, e4, e5, e6, k _ _ e7, e8, e9⟩
section
variable {X : Cx} {body : List Stmt} {h0 : ExceptHandler} {hds : List ExceptHandler} {l : List ((Value → Bool → Prop) × TC)} {pos : Pos} {tb : WX → TS} {Wout : WX}
theorem ps_tryG (hs : X.stack = X.env :: X.outer) (hf : X.env.frame = some X.env.locals) (tk : Takes X Wout)
    (hb : ∀ (W : WX) (pn : List (Addr × Obj)) (xe : Value → Shared → Prop), Takes (X.tr pn xe) W → PassesOwn (model X.prog X.w) X.A X.env xe → PSs (X.tr pn xe) body (tb W)) (hh : HdG X (h0 :: hds) l) :
    PS X (.Try body (h0 :: hds) [] [] pos) (fun D σ H => tb (wG Wout D l) D σ H) := by
  refine ⟨fun pins s σ H D I h => wpAny_Try_except (wpAny_mono ((hb (wG Wout D l) (X.pn ++ pins) (fun e s1 => wpAny (model X.prog X.w) X.A (noteFrame e X.env) (fun _ s2 => wpAny (model X.prog X.w) X.A (setFlight e none) (fun _ s3 =>
    wpAny (model X.prog X.w) X.A (handleBy e X.env (h0 :: hds)) (SP X pins D) X.xe s3) X.xe s2) X.xe s1) (fun u sx xx => ?_) PassesOwn.looking).run [] s σ H D (I.toTry _) h) (fun f s1 hsp => ?_) fun e s1 he => he)⟩
  · obtain ⟨a, B, sI, pinsB, σB, HB, cls, d, rfl, JB, nb, up, sky, na, os, ag, w⟩ := xx
    have ok := I.ok
    have hfr : X.A.frames = some (X.env :: X.outer) := by rw [ok.frames, hs]
    have J : Inv X pins σB HB sI := JB.ofTry ok
    show wpAny (model X.prog X.w) X.A (noteFrame (.ref a) X.env) _ _ _
    refine Sky.land Zc.steady hfr hf (show Sky B (X.env :: X.outer) a (Zc cls d) X.env.locals sx.heap by rw [← hs]; exact sky) fun hA flA upA => ?_
    have out : ∀ {hz : Heap} {o : Obj} {vs : Array Value}, hz.FunFrames B (X.env :: X.outer) → hz.get? a = some o → o.data = .fields vs → a ∉ frs (X.env :: X.outer) := fun {hz o vs} ff e dd hm => by
      obtain ⟨_, o2, e2, hnf⟩ := ff.mem hm
      rw [e] at e2; cases e2
      exact hnf _ dd
    obtain ⟨oA, vA, eA, _, dA⟩ := flA.there
    have nfr := out flA.2.2.1 eA dA
    have nL : a ≠ X.env.locals := fun z => nfr (List.mem_filterMap.mpr ⟨X.env, List.mem_cons_self, by rw [hf, z]⟩)
    have nF : a ∉ X.fs := fun hm => by
      obtain ⟨e, he, q⟩ := List.mem_filterMap.mp hm
      exact nfr (List.mem_filterMap.mpr ⟨e, List.mem_cons_of_mem _ he, q⟩)
    have go : ∀ {hds2 : List ExceptHandler} {l2 : List ((Value → Bool → Prop) × TC)}, HdG X hds2 l2 → ∀ h3 : Heap, HandSPX.FlyingZ B (X.env :: X.outer) a (Zc cls d) h3 → sx.heap.UpToSlots h3 → wG Wout D l2 cls d σB HB →
        wpAny (model X.prog X.w) X.A (handleBy (.ref a) X.env hds2) (SP X pins D) X.xe { sx with heap := h3 } := by
      intro hds2 l2 hk
      have tested : ∀ (h3 : Heap) (fl3 : HandSPX.FlyingZ B (X.env :: X.outer) a (Zc cls d) h3) (up3 : sx.heap.UpToSlots h3) {t : Expr} {tst : Value → Bool → Prop} {b : Bool} {Q : Bool → Shared → Prop} {E : Value → Shared → Prop}, HTest X t tst → tst cls b →
          (∀ h4, HandSPX.FlyingZ B (X.env :: X.outer) a (Zc cls d) h4 → sx.heap.UpToSlots h4 → Q b { sx with heap := h4 }) →
          wpAny (model X.prog X.w) (X.A.mark (some (.ref a))) (eval t X.env) (fun c s1 => wpAny (model X.prog X.w) (X.A.mark (some (.ref a))) (excMatches (.ref a) c) Q E s1) E { sx with heap := h3 } := by
        intro h3 fl3 up3 t tst b Q E ht hb k
        obtain ⟨oe, vs, e3, z3, d3⟩ := fl3.there
        have J3 : Inv X pins σB HB { sx with heap := h3 } := J.landed nb fl3.1 (up.trans up3) os ag
        exact ht a _ [] _ _ _ cls b Q E (J3.suite e3 d3 na nL nF) hb (fun A Q E s kk q => wpAny_typeOf_ref (kk _ _ e3) (by rw [z3.1]; exact q)) fun h4 kk => k h4 (fly_keep fl3 kk) (up3.trans (Heap.UpToSlots.of_keeps kk))
      induction hk with
      | nil =>
        intro h3 fl3 up3 w
        refine wpAny_handleBy_nil ?_
        obtain ⟨k1, k2, k3, oe, vs, T, oT, ts, he, hz, hd, h1, hr⟩ := id fl3
        unfold PySem.passOn
        refine wpAny_bind (wpAny_field he hd h1 ?_)
        rw [if_neg (show ¬ ((Value.ref T == Value.none) = true) from by simp)]
        have fin : wpAny (model X.prog X.w) X.A (setFlight (.ref a) X.env.frame) (fun _ s4 => wpAny (model X.prog X.w) X.A (throw (.ref a) : Sem Flow) (SP X pins D) X.xe s4) X.xe { sx with heap := h3 } := by
          rw [hf]
          exact HandSPX.setFlight_upZ fl3 fun h4 hh4 up4 => wpAny_throw (tk _ _ ⟨a, B, sI, pins, σB, HB, cls, d, rfl, J, nb, (up.trans up3).trans up4, .inr (.inr (by rw [hs]; exact hh4)), na, os, ag, w⟩)
        first | exact wpAny_bind (wpAny_pure (wpAny_bind fin)) | exact wpAny_bind fin
      | @bare t tst ts b0 suite ps2 hds3 l3 ht hsu r ih =>
        rintro h3 fl3 up3 ⟨b, hb1, hyes, hno⟩
        refine wpAny_handleBy_cons (codeAny_handlers_test (tested h3 fl3 up3 ht hb1 fun h4 fl4 up4 => ?_)) (by intro q; cases q)
        cases b with
        | false => exact ih h4 fl4 up4 (hno rfl)
        | true =>
          refine codeAny_handlers_suite (HandSPX.lands_againZ fl4 fun h5 fl5 up5 => ?_)
          obtain ⟨o5, v5, e5, z5, d5⟩ := fl5.there
          have J5 : Inv X pins σB HB { sx with heap := h5 } := J.landed nb fl5.1 ((up.trans up4).trans up5) os ag
          refine wpAny_mono ((hsu a o5 cls d (X.pn ++ pins) z5 ⟨_, d5⟩).run [] _ _ HB _ (J5.suite e5 d5 na nL nF) (hyes rfl a na)) (fun f s6 hsp => ?_) fun _ _ z => z.elim
          cases f with
          | next => obtain ⟨σ6, H6, S6, q6⟩ := hsp; exact ⟨_, _, S6.unsuite ok, q6⟩
          | brk => obtain ⟨σ6, H6, S6, q6⟩ := hsp; exact ⟨_, _, S6.unsuite ok, q6⟩
          | cont => obtain ⟨σ6, H6, S6, q6⟩ := hsp; exact ⟨_, _, S6.unsuite ok, q6⟩
          | ret u => obtain ⟨v6, σ6, H6, S6, r6, q6⟩ := hsp; exact ⟨_, _, _, S6.unsuite ok, r6, q6⟩
      | @as i n t tst ts b0 suite ps2 hds3 l3 hN hi hln ht hsu r ih =>
        rintro h3 fl3 up3 ⟨b, hb1, hyes, hno⟩
        refine wpAny_handleBy_cons (codeAny_handlers_test (tested h3 fl3 up3 ht hb1 fun h4 fl4 up4 => ?_)) (by intro q; cases q)
        cases b with
        | false => exact ih h4 fl4 up4 (hno rfl)
        | true =>
          refine codeAny_handlers_suite_as (HandSPX.lands_againZ fl4 fun h5 fl5 up5 => ?_)
          obtain ⟨o5, v5, e5, z5, d5⟩ := fl5.there
          have J5 : Inv X pins σB HB { sx with heap := h5 } := J.landed nb fl5.1 ((up.trans up4).trans up5) os ag
          refine store_ok (X := X.suite a ((a, o5) :: (X.pn ++ pins))) (v := .ref a) (J5.suite e5 d5 na nL nF) hN hi (.inl hln) rfl (fun s5 S5 => ?_) (.inr hln)
          refine wpAny_mono ((hsu a o5 cls d (X.pn ++ pins) z5 ⟨_, d5⟩).run [] s5 _ HB _ S5 (hyes rfl a na)) (fun f s6 hsp => ?_) fun _ _ z => z.elim
          cases f with
          | next => obtain ⟨σ6, H6, S6, q6⟩ := hsp; exact gone_ok (S6.unsuite ok) hN hi hln fun s7 J7 => ⟨_, _, J7, q6⟩
          | brk => obtain ⟨σ6, H6, S6, q6⟩ := hsp; exact gone_ok (S6.unsuite ok) hN hi hln fun s7 J7 => ⟨_, _, J7, q6⟩
          | cont => obtain ⟨σ6, H6, S6, q6⟩ := hsp; exact gone_ok (S6.unsuite ok) hN hi hln fun s7 J7 => ⟨_, _, J7, q6⟩
          | ret u => obtain ⟨v6, σ6, H6, S6, r6, q6⟩ := hsp; exact gone_ok (S6.unsuite ok) hN hi hln fun s7 J7 => ⟨_, _, _, J7, r6, q6⟩
    exact go hh hA flA upA w
  · have ok := I.ok
    cases f with
    | next => obtain ⟨σ2, H2, J2, q⟩ := hsp; exact wpAny_execs_nil ⟨σ2, H2, J2.ofTry ok, q⟩
    | brk => obtain ⟨σ2, H2, J2, q⟩ := hsp; exact ⟨σ2, H2, J2.ofTry ok, q⟩
    | cont => obtain ⟨σ2, H2, J2, q⟩ := hsp; exact ⟨σ2, H2, J2.ofTry ok, q⟩
    | ret u => obtain ⟨v, σ2, H2, J2, r, q⟩ := hsp; exact ⟨v, σ2, H2, J2.ofTry ok, r, q⟩
end
end G
namespace G
open PySem PySem.Spec PyProof.Rows L2 PySem.W PySem.Calls
/-! ### the same by functions -/
open Classical in
noncomputable def uniq (F : XI → RS) : RS := if h : ∃ r, ∀ x, F x = r then choose h else .no
theorem uniq_eq {F : XI → RS} {r : RS} (h : ∀ x, F x = r) : uniq F = r := by
  have e : ∃ r, ∀ x, F x = r := ⟨r, h⟩
  unfold uniq
  rw [dif_pos e, ← Classical.choose_spec e ⟨0, none, .none⟩, h]
def RS.goneR (i : Nat) : RS → RS
  | .nx ρ h => .nx (ρ.set i none) h
  | .bk ρ h => .bk (ρ.set i none) h
  | .ct ρ h => .ct (ρ.set i none) h
  | .rt d h => .rt d h
  | .er _ _ _ => .no
  | .no => .no
def RS.noEr : RS → RS
  | .er _ _ _ => .no
  | r => r
abbrev Anc := List (Str × List Str)
abbrev Hdl := List Str × Option Nat × (XI → SS)
def hd1 (c : Str) (fs : List (Str × D)) (g : XI → SS) (ρ : Ev) (h : Hs) (x : XI) : Option Nat → RS
  | some i => (g x (ρ.set i (some (.exn x c fs))) h).goneR i
  | none => (g x ρ h).noEr
noncomputable def hdl (as : List Str) (c : Str) (fs : List (Str × D)) : List Hdl → SS
  | [], ρ, h => .er (.ins c fs) ρ h
  | (ks, o, g) :: r, ρ, h => if (ks.any fun k => as.contains k) = true then uniq fun x => hd1 c fs g ρ h x o else hdl as c fs r ρ h
noncomputable def sTry (anc : Anc) (b : SS) (hs : List Hdl) : SS := fun ρ h => match b ρ h with
  | .er (.ins c fs) ρ1 h1 => (match anc.lookup c with
    | some as => hdl as c fs hs ρ1 h1
    | none => .no)
  | .er _ _ _ => .no
  | r => r
def wNo : WX := fun _ _ _ _ => False
theorem REnv.unset {K : PySem.W.Frag} {mg : Str → Option Value} {m : List Addr} {H : Hp} {ρ : Ev} {σ : Sl} (r : REnv K mg m H ρ σ) (i : Nat) : REnv K mg m H (ρ.set i none) (σ.set i none) := by
  refine ⟨by simp [r.len], fun j u hj => ?_⟩
  by_cases e : i = j
  · subst e
    by_cases hl : i < ρ.length
    · rw [List.getElem?_set_self hl] at hj; cases hj
    · rw [List.getElem?_eq_none (by simp; omega)] at hj; cases hj
  · rw [List.getElem?_set_ne e] at hj ⊢
    exact r.get j u hj
section
variable {K : PySem.W.Frag} {mg : Str → Option Value} {m : List Addr} {H : Hp} {DD : Ends} {W : WX}
theorem PoS.gone {i : Nat} {r : RS} (p : PoS K mg m H (r.goneR i) DD W) : PoS K mg m H r (gone i DD) wNo := by
  cases r with
  | nx ρ h => exact fun m1 H1 σ e1 r1 en => p m1 H1 _ e1 r1 (en.unset i)
  | bk ρ h => exact fun m1 H1 σ e1 r1 en => p m1 H1 _ e1 r1 (en.unset i)
  | ct ρ h => exact fun m1 H1 σ e1 r1 en => p m1 H1 _ e1 r1 (en.unset i)
  | rt d h => exact p
  | er e ρ h => exact p.elim
  | no => exact p.elim
theorem PoS.noEr {r : RS} (p : PoS K mg m H r.noEr DD W) : PoS K mg m H r DD wNo := by
  cases r with
  | nx ρ h => exact p
  | bk ρ h => exact p
  | ct ρ h => exact p
  | rt d h => exact p
  | er e ρ h => exact p.elim
  | no => exact p.elim
end
theorem uniq_pos {K : PySem.W.Frag} {mg : Str → Option Value} {m : List Addr} {H : Hp} {DD : Ends} {W : WX} {F : XI → RS} (x : XI) (p : PoS K mg m H (uniq F) DD W) : PoS K mg m H (F x) DD W := by
  by_cases q : ∃ r, ∀ x, F x = r
  · obtain ⟨r, e⟩ := q
    rw [uniq_eq e] at p
    rw [e]; exact p
  · unfold uniq at p
    rw [dif_neg q] at p
    exact p.elim
/-- the clauses do what the functions say -/
inductive HdR (X : Cx) (anc : Anc) : List ExceptHandler → List Hdl → Prop
  | nil : HdR X anc [] []
  | bare {ks : List Str} {g : XI → SS} {t : Expr} {tst : Value → Bool → Prop} {b0 : Stmt} {suite : List Stmt} {pos : Pos} {hds : List ExceptHandler} {l : List Hdl} (ht : HTest X t tst)
      (hx : ∀ c as, anc.lookup c = some as → ∀ C, X.mg c = some (.ref C) → tst (.ref C) (ks.any fun k => as.contains k))
      (hs : ∀ (a : Addr) (oe : Obj) (cls : Value) (d : Option Addr) (pn : List (Addr × Obj)), Zc cls d oe → (∃ vs, oe.data = .fields vs) → RSs (X.suite a ((a, oe) :: pn)) (b0 :: suite) (g ⟨a, d, cls⟩)) (r : HdR X anc hds l) :
      HdR X anc (.ExceptHandler (some t) none (b0 :: suite) pos :: hds) ((ks, none, g) :: l)
  | as {ks : List Str} {g : XI → SS} {i : Nat} {n : Str} {t : Expr} {tst : Value → Bool → Prop} {b0 : Stmt} {suite : List Stmt} {pos : Pos} {hds : List ExceptHandler} {l : List Hdl} (hN : X.N.Nodup) (hi : X.N[i]? = some n) (hl : X.env.kindOf n = some .local) (ht : HTest X t tst)
      (hx : ∀ c as, anc.lookup c = some as → ∀ C, X.mg c = some (.ref C) → tst (.ref C) (ks.any fun k => as.contains k))
      (hs : ∀ (a : Addr) (oe : Obj) (cls : Value) (d : Option Addr) (pn : List (Addr × Obj)), Zc cls d oe → (∃ vs, oe.data = .fields vs) → RSs (X.suite a ((a, oe) :: pn)) (b0 :: suite) (g ⟨a, d, cls⟩)) (r : HdR X anc hds l) :
      HdR X anc (.ExceptHandler (some t) (some n) (b0 :: suite) pos :: hds) ((ks, some i, g) :: l)
section
variable {X : Cx} {anc : Anc}
theorem HdR.to {hds : List ExceptHandler} {gs : List Hdl} (r : HdR X anc hds gs) : ∃ l, HdG X hds l ∧ ∀ (W : WX) (DD : Ends) (c : Str) (as : List Str) (fs : List (Str × D)) (m : List Addr) (H : Hp) (σ : Sl) (ρ : Ev) (h : Hs) (cls : Value) (dd : Option Addr), anc.lookup c = some as → Rel X.K X.mg m H h → REnv X.K X.mg m H ρ σ →
    RX X.K X.mg m H (.ins c fs) cls dd → PoS X.K X.mg m H (hdl as c fs gs ρ h) DD W → wG W DD l cls dd σ H := by
  induction r with
  | nil => exact ⟨[], .nil, fun W DD c as fs m H σ ρ h cls dd ha rl en rx p => p m H σ cls dd (Ext.refl _ _) rl en rx⟩
  | @bare ks g t tst b0 suite pos hds l ht hx hs r ih =>
    obtain ⟨l2, h1, h2⟩ := ih
    refine ⟨_, .bare (ts := fun a cls d => LS X.K X.mg wNo (g ⟨a, d, cls⟩)) ht (fun a oe cls d pn hz hf => (hs a oe cls d pn hz hf).run wNo takes_none5) h1, fun W DD c as fs m H σ ρ h cls dd ha rl en rx p => ?_⟩
    obtain ⟨c', fs', C, e, hm, rfl, rd⟩ := id rx
    cases e
    refine ⟨_, hx c as ha C hm, fun hb a na => ?_, fun hb => ?_⟩
    · unfold hdl at p
      rw [if_pos hb] at p
      exact ⟨m, ρ, h, rl, en, PoS.noEr (uniq_pos ⟨a, dd, .ref C⟩ p)⟩
    · unfold hdl at p
      rw [if_neg (by rw [hb]; decide)] at p
      exact h2 W DD c as fs m H σ ρ h _ dd ha rl en rx p
  | @as ks g i n t tst b0 suite pos hds l hN hi hl ht hx hs r ih =>
    obtain ⟨l2, h1, h2⟩ := ih
    refine ⟨_, .as (ts := fun a cls d => LS X.K X.mg wNo (g ⟨a, d, cls⟩)) hN hi hl ht (fun a oe cls d pn hz hf => (hs a oe cls d pn hz hf).run wNo takes_none5) h1, fun W DD c as fs m H σ ρ h cls dd ha rl en rx p => ?_⟩
    obtain ⟨c', fs', C, e, hm, rfl, rd⟩ := id rx
    cases e
    refine ⟨_, hx c as ha C hm, fun hb a na => ?_, fun hb => ?_⟩
    · unfold hdl at p
      rw [if_pos hb] at p
      refine ⟨m, _, h, rl, en.set i (d := .exn ⟨a, dd, .ref C⟩ c fs) (v := .ref a) ?_, PoS.gone (i := i) (uniq_pos ⟨a, dd, .ref C⟩ p)⟩
      simp only [RD]
      rcases rd with ⟨rfl, rfl⟩ | ⟨d, ys, rfl, hd, rf⟩
      · exact ⟨C, [], by first | trivial | rfl, hm, by first | trivial | rfl, .inl ⟨by first | trivial | rfl, by first | trivial | rfl, by first | trivial | rfl⟩, by simp only [RDf]⟩
      · exact ⟨C, ys, by first | trivial | rfl, hm, by first | trivial | rfl, .inr ⟨d, by first | trivial | rfl, hd, rl.noxd d ys hd⟩, rf⟩
    · unfold hdl at p
      rw [if_neg (by rw [hb]; decide)] at p
      exact h2 W DD c as fs m H σ ρ h _ dd ha rl en rx p
theorem rs_try {body : List Stmt} {h0 : ExceptHandler} {hds : List ExceptHandler} {pos : Pos} {f : SS} {gs : List Hdl} (hs : X.stack = X.env :: X.outer) (hf : X.env.frame = some X.env.locals)
    (hb : ∀ (pn : List (Addr × Obj)) (xe : Value → Shared → Prop), PassesOwn (model X.prog X.w) X.A X.env xe → RSs (X.tr pn xe) body f) (hh : HdR X anc (h0 :: hds) gs) : RSt X (.Try body (h0 :: hds) [] [] pos) (sTry anc f gs) := by
  obtain ⟨l, h1, h2⟩ := hh.to
  exact ⟨fun W tk => ps_imp (ps_tryG (tb := fun W2 => LS X.K X.mg W2 f) hs hf tk (fun W2 pn xe tk2 po => (hb pn xe po).run W2 tk2) h1) fun DD σ H ⟨m, ρ, h, rl, en, p⟩ => by
    refine ⟨m, ρ, h, rl, en, ?_⟩
    unfold sTry at p
    cases q : f ρ h with
    | nx ρ1 h1 => rw [q] at p; exact p
    | bk ρ1 h1 => rw [q] at p; exact p
    | ct ρ1 h1 => rw [q] at p; exact p
    | rt d1 h1 => rw [q] at p; exact p
    | no => rw [q] at p; exact p.elim
    | er e ρ1 h1 =>
      rw [q] at p
      cases e with
      | ins c fs =>
        dsimp only at p
        cases ha : anc.lookup c with
        | none => rw [ha] at p; exact p.elim
        | some as => rw [ha] at p; exact fun m1 H1 σ1 cls dd e1 r1 en1 rx => h2 W DD c as fs m1 H1 σ1 ρ1 h1 cls dd ha r1 en1 rx (p.ext e1)
      | _ => exact p.elim⟩
/-! ### in a suite -/
/-- the handled exception is x, its object stands in the pins -/
structure PinX (X : Cx) (x : XI) : Prop where
  hd : X.A.handled = some (.ref x.a)
  ex : ∃ oe : Obj, (x.a, oe) ∈ X.pn ∧ Zc x.cls x.dd oe ∧ ∃ vs, oe.data = .fields vs
theorem pinX_suite {a : Addr} {oe : Obj} {cls : Value} {d : Option Addr} {pn : List (Addr × Obj)} (hz : Zc cls d oe) (hf : ∃ vs, oe.data = .fields vs) : PinX (X.suite a ((a, oe) :: pn)) ⟨a, d, cls⟩ := ⟨rfl, oe, List.mem_cons_self, hz, hf⟩
/-- room in a suite -/
structure RoomXB (gb : Prop) (k : Nat) (A : Around) : Prop where
  dp : A.depth + 3 * k + 5 < recursionLimit
  un : A.units + 16 * k + 200 < cLine
  gd : gb → A.guards = some []
abbrev RoomX (k : Nat) (A : Around) : Prop := RoomXB True k A
theorem RoomXB.mono {gb : Prop} {j k : Nat} {A : Around} (r : RoomXB gb k A) (h : j ≤ k) : RoomXB gb j A := ⟨by have := r.dp; omega, by have := r.un; omega, r.gd⟩
theorem RoomXB.off {gb : Prop} {k : Nat} {A : Around} (r : RoomXB gb k A) : RoomXB False k A := ⟨r.dp, r.un, fun z => z.elim⟩
theorem RoomXB.deep {gb : Prop} {k : Nat} {A : Around} (r : RoomXB gb (k + 1) A) (env : Env) : RoomXB gb k (A.deeper env) :=
  ⟨by have := r.dp; show A.depth + 1 + 3 * k + 5 < _; omega, by have := r.un; show A.units + 3 + 16 * k + 200 < _; omega, r.gd⟩
theorem RoomXB.rm {gb : Prop} {k : Nat} {A : Around} (r : RoomXB gb k A) : Rm A := ⟨by have := r.un; omega⟩
theorem RoomXB.rg {k : Nat} {A : Around} (r : RoomXB True k A) : RmG A := ⟨r.rm.un, r.gd trivial⟩
theorem RoomB.hot {gb : Prop} {k : Nat} {A : Around} (r : RoomB gb k A) (v : Option Value) : RoomXB gb k (A.mark v) := ⟨r.room.dp, r.room.un, r.gd⟩
/-- what an exception's class must have: isinstance, its fields -/
structure XkF (K : PySem.W.Frag) (C : Addr) : Prop where
  ga : findIn K (.ref C) "__getattribute__" = some (some (.builtin "BaseException.__getattribute__"))
  gg : findIn K (.ref C) "__getattr__" = some none
  ex : subIn K (.ref C) (.type "BaseException") = some true
  hd : hasDictIn K C = true
  cl : findIn K (.ref C) "__class__" = some (some (.builtin "object.__class__"))
  cg : specialIn K (.builtin "object.__class__") "__get__" = some (some (.builtin "getset_descriptor.__get__"))
  ct : takesIn K (.builtin "object.__class__") = some true
  mo : mroIn K C (.type "object") = some true
theorem XkF.isC {K : PySem.W.Frag} {C : Addr} (T : XkF K C) : (clsIn K C).isSome = true := by
  obtain ⟨cd, hc, _⟩ := any_some T.hd
  rw [hc]; rfl
/-- the exception as an instance -/
theorem exn_at {pins : List (Addr × Obj)} {σ : Sl} {H : Hp} {s : Shared} {x : XI} {C : Addr} (hp : PinX X x) (hc : x.cls = .ref C) (I : Inv X pins σ H s) (hd : x.dd = none ∨ ∃ d ys, x.dd = some d ∧ H d = some (.xd ys)) :
    ∃ oe od, InstAt s.heap x.a oe C od := by
  obtain ⟨oe, hm, ⟨z1, z2⟩, vs, hv⟩ := hp.ex
  obtain ⟨ha, _⟩ := I.pin (x.a, oe) (List.mem_append_left _ hm)
  have e1 : oe.cls = .ref C := z1.trans hc
  rcases hd with e | ⟨d, ys, e, hh⟩
  · exact ⟨oe, none, ha, e1, by unfold notCls; rw [hv] <;> rfl, by rw [z2, e]; trivial⟩
  · obtain ⟨mA, ⟨od, es, ep, ho, hr⟩, _⟩ := (show ObjOk X.prog X.w H s.heap d (.xd ys) from I.hok d _ hh)
    exact ⟨oe, some od, ha, e1, by unfold notCls; rw [hv] <;> rfl, by rw [z2, e]; exact ho⟩
def rIsX (K : PySem.W.Frag) (x : XI) : List V → Hp → VK → Prop := fun xs H Q => ∃ (c : V) (C : Addr) (b : Bool), xs = [.ref x.a, c] ∧ x.cls = .ref C ∧ XkF K C ∧ (x.dd = none ∨ ∃ d ys, x.dd = some d ∧ H d = some (.xd ys)) ∧
  ((∃ u, ClsV c u ∧ kitOne K (.ref C) u = some b) ∨ ∃ (tp : Addr) (cs : List V) (us : List Value), c = .ref tp ∧ H tp = some (.tup cs) ∧ Paired ClsV cs us ∧ kitAny K (.ref C) us = some b) ∧ Q (.bl b) H
theorem call_isX {x : XI} (hp : PinX X x) : CallR X (.builtin "isinstance") (rIsX X.K x) := by
  intro pins s σ H xs us Q I r h
  obtain ⟨c, C, b, rfl, hc, T, hd, hk, q⟩ := h
  obtain ⟨u1, u2, rfl, r1, r2⟩ := vals2 r
  cases (show u1 = Value.ref x.a from r1)
  obtain ⟨oe, od, J⟩ := exn_at hp hc I hd
  have Z := kitx_exc (K := X.K) (x := x.a) (ox := oe) (od := od) T.isC T.ga T.gg T.ex T.cl T.cg T.ct T.mo
  rcases hk with ⟨u, hv, e⟩ | ⟨tp, cs, ws, rfl, hT, hv, e⟩
  · have e3 := ClsV.all (.cons hv .nil) (.cons r2 .nil)
    cases e3
    exact kia_one Z I.kIn J e (fun z => nomatch z) fun tk => ⟨.bl b, H, I.tok tk, rfl, q⟩
  · cases (show u2 = Value.ref tp from r2)
    obtain ⟨_, its, rv, o, h1, h2, n, h3⟩ := (show ObjOk X.prog X.w H s.heap tp (.tup cs) from I.hok tp _ hT)
    have e3 := ClsV.all hv rv
    subst e3
    obtain ⟨oc, od2, dt, sl⟩ := o
    simp only at h2 h3
    subst h2 h3
    exact kia_tup Z I.kIn J h1 e (fun z => nomatch z) fun tk => ⟨.bl b, H, I.tok tk, rfl, q⟩
end
end G

/-! G18: the handled exception looked at; defs that a suite calls; facts of exception classes. -/
namespace G
open PySem PySem.Spec PyProof.Rows L2 PySem.W PySem.Calls
/-! ### isinstance(e, ..), e.f -/
def tCs (vs : List V) : TA := fun _ H Q => Q vs H
theorem pac_nil {X : Cx} : PA X [] (tCs []) := pa_imp pa_nil fun _ _ _ q => q
theorem pac_cons {X : Cx} {e : Expr} {es : List Expr} {v : V} {vs : List V} (h : PE X e (tC v)) (r : PA X es (tCs vs)) (hs : starEach (e :: es) X.env = (false, eval e X.env) :: starEach es X.env := by rfl) : PA X (e :: es) (tCs (v :: vs)) := pa_imp (pa_cons h r hs) fun _ _ _ q => q
open Classical in
noncomputable def sIsX (anc : Anc) (ks : List Str) (i : Nat) (x : XI) : SE := fun ρ h => match ρ[i]? with
  | some (some (.exn x' c _)) => if x' = x then (match anc.lookup c with
    | some as => .ok (.bl (ks.any fun k => as.contains k)) h
    | none => .no) else .no
  | _ => .no
open Classical in
noncomputable def sFldX (cs : List Str) (f : Str) (i : Nat) (x : XI) : SE := fun ρ h => match ρ[i]? with
  | some (some (.exn x' c fs)) => if x' = x ∧ c ∈ cs then (match fs.lookup f with
    | some d => .ok d h
    | none => .no) else .no
  | _ => .no
/-- what isinstance tells of the table's classes -/
def IsmF (K : PySem.W.Frag) (mg : Str → Option Value) (anc : Anc) (ks : List Str) (us : List Value) : Prop := ∀ c as, anc.lookup c = some as → ∀ C, mg c = some (.ref C) → XkF K C ∧ kitAny K (.ref C) us = some (ks.any fun k => as.contains k)
theorem kit_one {K : PySem.W.Frag} {t u : Value} {b : Bool} (h : kitAny K t [u] = some b) : kitOne K t u = some b := by
  unfold kitAny at h
  cases q : kitOne K t u with
  | none => rw [q] at h; cases h
  | some a =>
    rw [q] at h
    cases a with
    | true => exact h
    | false => exact h
section
variable {X : Cx} {x : XI} {anc : Anc} {ks : List Str} {i : Nat} {n : Str} {v : V} {u : Value} {ce : Expr} {q p pos pos2 : Pos}
theorem isX_read {us : List Value} (T : IsmF X.K X.mg anc ks us) {σ : Sl} {H : Hp} {Q : VK} {W : WX} (h : LE X.K X.mg W (sIsX anc ks i x) σ H Q) : ∃ C, σ[i]? = some (some (.ref x.a)) ∧ x.cls = .ref C ∧ XkF X.K C ∧ (x.dd = none ∨ ∃ d ys, x.dd = some d ∧ H d = some (.xd ys)) ∧ ∃ b, kitAny X.K (.ref C) us = some b ∧ ∃ m h, Rel X.K X.mg m H h ∧ Po X.K X.mg (RD X.K X.mg) m H (.ok (.bl b) h) Q fun c dd H' => W c dd σ H' := by
  obtain ⟨m, ρ, h, rl, en, p⟩ := h
  unfold sIsX at p
  split at p
  · rename_i x2 c fs hd
    obtain ⟨w, hw, rd⟩ := en.get i _ hd
    simp only [RD] at rd
    obtain ⟨C, ys, rfl, g, ec, ed, rf⟩ := rd
    split at p
    · rename_i ex
      subst ex
      split at p
      · rename_i as ha
        obtain ⟨T1, T2⟩ := T c as ha C g
        refine ⟨C, hw, ec, T1, ?_, _, T2, m, h, rl, p⟩
        rcases ed with ⟨_, _, e⟩ | ⟨d, e1, e2, _⟩
        · exact .inl e
        · exact .inr ⟨d, ys, e1, e2⟩
      · exact p.elim
    · exact p.elim
  · exact p.elim
theorem re_isX1 (hp : PinX X x) (T : IsmF X.K X.mg anc ks [u]) (hn : PE X (.Name n q) (tVar i)) (hc : PE X ce (tC v)) (hv : ClsV v u) (hg : Gl X "isinstance") (hm : X.mg "isinstance" = none) (h1 : starEach [.Name n q, ce] X.env = (false, eval (.Name n q) X.env) :: starEach [ce] X.env := by rfl)
    (h2 : starEach [ce] X.env = (false, eval ce X.env) :: starEach [] X.env := by rfl) (h3 : (backTo pos (starEach [ce] X.env)).any (·.1) = false := by rfl) : RE X (.Call (.Name "isinstance" p) [.Name n q, ce] [] pos) (sIsX anc ks i x) :=
  ⟨fun W tk => pe_imp (pe_callB (call_isX hp) hg hm boot_isinstance (pa_cons hn (pa_cons hc pa_nil h2) h1) (by decide) (by decide) h1 h3) fun σ H Q h => by
    obtain ⟨C, e1, e2, e3, e4, b, e5, m, h, rl, p⟩ := isX_read T h
    exact ⟨_, e1, v, C, b, rfl, e2, e3, e4, .inl ⟨u, hv, kit_one e5⟩, p.ok rl (by simp only [RD])⟩⟩
theorem re_isXt {es : List Expr} {vs : List V} {us : List Value} {k2 : Nat} (hp : PinX X x) (T : IsmF X.K X.mg anc ks us) (hn : PE X (.Name n q) (tVar i)) (hc : PA X es (tCs vs)) (hv : Paired ClsV vs us) (hl : vs.length ≤ 1000) (hg : Gl X "isinstance") (hm : X.mg "isinstance" = none)
    (h1 : starEach [.Name n q, .Tuple es k2 pos2] X.env = (false, eval (.Name n q) X.env) :: starEach [.Tuple es k2 pos2] X.env := by rfl)
    (h2 : starEach [.Tuple es k2 pos2] X.env = (false, eval (.Tuple es k2 pos2) X.env) :: starEach [] X.env := by rfl) (h3 : (backTo pos (starEach [.Tuple es k2 pos2] X.env)).any (·.1) = false := by rfl) : RE X (.Call (.Name "isinstance" p) [.Name n q, .Tuple es k2 pos2] [] pos) (sIsX anc ks i x) :=
  ⟨fun W tk => pe_imp (pe_callB (call_isX hp) hg hm boot_isinstance (pa_cons hn (pa_cons (pe_tup hc) pa_nil h2) h1) (by decide) (by decide) h1 h3) fun σ H Q h => by
    obtain ⟨C, e1, e2, e3, e4, b, e5, m, h, rl, p⟩ := isX_read T h
    refine ⟨_, e1, Nat.le_trans hl (by rw [sizeLine_eq]; decide), fun t ht => ?_⟩
    refine ⟨.ref t, C, b, rfl, e2, e3, ?_, .inr ⟨t, vs, us, rfl, upd_same, hv, e5⟩, p m _ _ (Ext.new ht) (rl.new ht) (by simp only [RD])⟩
    rcases e4 with e | ⟨d, ys, f1, f2⟩
    · exact .inl e
    · exact .inr ⟨d, ys, f1, by rw [upd_ne (ne_of_none f2 ht)]; exact f2⟩⟩
/-- e.f -/
def XfF (K : PySem.W.Frag) (mg : Str → Option Value) (cs : List Str) (f : Str) : Prop := ∀ c ∈ cs, ∀ C, mg c = some (.ref C) → XkF K C ∧ findIn K (.ref C) f = some none
theorem re_fldX {cs : List Str} {f : Str} (hp : PinX X x) (T : XfF X.K X.mg cs f) (hn : PE X (.Name n q) (tVar i)) (hb : attributeBase (.Name n q) f X.env (eval (.Name n q) X.env) = eval (.Name n q) X.env := by rfl) : RE X (.Attribute (.Name n q) f pos) (sFldX cs f i x) :=
  ⟨fun W tk => ⟨fun pins s σ H Q I ⟨m, ρ, h, rl, en, p⟩ => by
    unfold sFldX at p
    split at p
    · rename_i x2 c fs hd
      obtain ⟨w, hw, rd⟩ := en.get i _ hd
      simp only [RD] at rd
      obtain ⟨C, ys, rfl, g, ec, ed, rf⟩ := rd
      split at p
      · rename_i ex
        obtain ⟨rfl, hc⟩ := ex
        obtain ⟨T1, T2⟩ := T c hc C g
        split at p
        · rename_i d hl
          obtain ⟨v, hv, rv⟩ := (RDf.look rf).1 d hl
          refine attr_of hb (thn (hn.run pins s σ H (fun v1 H1 => v1 = .ref x2.a ∧ H1 = H) I ⟨_, hw, rfl, rfl⟩) fun u s1 ⟨v1, H1, I1, r1, e1, e2⟩ => ?_)
          subst e1 e2
          cases (show u = Value.ref x2.a from r1)
          rcases ed with ⟨rfl, _, _⟩ | ⟨dd, f1, f2, _⟩
          · cases hl
          · obtain ⟨oe, hm, ⟨z1, z2⟩, vs, hvs⟩ := hp.ex
            obtain ⟨ha, _⟩ := I1.pin (x2.a, oe) (List.mem_append_left _ hm)
            obtain ⟨mA, hns, hr⟩ := (show ObjOk X.prog X.w H1 s1.heap dd (.xd ys) from I1.hok dd _ f2)
            obtain ⟨od, ho, hk⟩ := lookIn_ns hns
            obtain ⟨u2, hu, ru⟩ := RelO.some_of (v := v) (o := mA f) (by rw [← hv]; exact hr f)
            have J : InstAt s1.heap x2.a oe C (some od) := ⟨ha, z1.trans ec, by unfold notCls; rw [hvs] <;> rfl, by rw [z2, f1]; exact ho⟩
            exact HandSPX.exc_get I1.kIn J T1.ga T1.gg T1.ex (findObj_own T1.hd T2 rfl (by rw [hk, hu])) (handed_of ru) ⟨v, H1, I1.tok _, ru, p.ok rl rv⟩
        · exact p.elim
      · exact p.elim
    · exact p.elim⟩⟩
end
/-! ### defs that a suite calls -/
structure HotA (A : Around) (p : Addr × Obj) (x : XI) : Prop where
  hd : A.handled = some (.ref p.1)
  at_ : x.a = p.1
  z : Zc x.cls x.dd p.2
  f : ∃ vs, p.2.data = .fields vs
structure FnXB (gb : Prop) (P : Program) (w : World) (K : PySem.W.Frag) (mg : Str → Option Value) (base : Heap) (k : Nat) (f : Addr) (fd : FuncData) (ps : List Str) (fs : XI → Fs) : Prop where
  run : ∀ (A : Around) (outer : List Env) (s : Shared) (H : Hp) (args : Args) (us : List Value) (vs : List V) (Q : VK) (E : XK) (p : Addr × Obj) (x : XI), RoomXB gb k A → HotA A p x → L2H.PinOk outer H s p → Env0 P w K mg base A outer s H → BindsTo s fd args (ps.zip us) → Vals vs us → SpL K mg ps.length (fs x) vs H Q E →
    codeAny (model P w) A (.call (.ref f) args) (CR (L2.CX P w) outer P w H s Q E) s
abbrev FnX (P : Program) (w : World) (K : PySem.W.Frag) (mg : Str → Option Value) (base : Heap) (k : Nat) (f : Addr) (fd : FuncData) (ps : List Str) (fs : XI → Fs) : Prop := FnXB True P w K mg base k f fd ps fs
theorem FnXB.mono {gb : Prop} {P : Program} {w : World} {K : PySem.W.Frag} {mg : Str → Option Value} {base : Heap} {j k : Nat} {f : Addr} {fd : FuncData} {ps : List Str} {fs : XI → Fs} (F : FnXB gb P w K mg base j f fd ps fs) (h : j ≤ k) : FnXB gb P w K mg base k f fd ps fs := ⟨fun A outer s H args us vs Q E p x r => F.run A outer s H args us vs Q E p x (r.mono h)⟩
section
variable {P : Program} {w : World} {K : PySem.W.Frag} {mg : Str → Option Value} {base : Heap} {x qual : Str} {params : Arguments} {body : List Stmt} {scope : Scope} {dvs : List V} {kws : List (Str × V)} {f : Addr} {fd : FuncData} {N ps : List Str} {k : Nat} {fb : XI → SS}
abbrev cxX (P : Program) (w : World) (K : PySem.W.Frag) (mg : Str → Option Value) (base : Heap) (N : List Str) (qual : Str) (scope : Scope) (f : Addr) (cdv : Value) (A : Around) (outer : List Env) (s : Shared) (H : Hp) (E : XK) (p : Addr × Obj) : Cx := L2H.cxH (L2.CX P w) P w K mg base N qual scope f cdv A outer s H E p
theorem pinX_def {cdv : Value} {A : Around} {outer : List Env} {s : Shared} {H : Hp} {E : XK} {p : Addr × Obj} {x : XI} (h : HotA A p x) : PinX (cxX P w K mg base N qual scope f cdv A outer s H E p) x := by
  obtain ⟨h1, h2, h3, h4⟩ := h
  obtain ⟨xa, xd, xc⟩ := x
  obtain ⟨pa, po⟩ := p
  cases h2
  exact ⟨h1, po, List.mem_cons_self, h3, h4⟩
theorem fn_okX {gb : Prop} (F : FunD K x qual params body scope dvs kws f fd) (S : FnScope N ps scope)
    (hb : ∀ (cdv : Value) (A : Around) (outer : List Env) (s : Shared) (H : Hp) (E : XK) (p : Addr × Obj) (xi : XI), RoomXB gb k (A.deeper (envOfC qual scope s.heap.objs.size f cdv)) → HotA A p xi → RSs (cxX P w K mg base N qual scope f cdv A outer s H E p) body (fb xi)) :
    FnXB gb P w K mg base (k + 1) f fd ps (fun xi => runB N.length (fb xi)) := by
  obtain ⟨oc, od, dV, kV, doc, pm, an, cdv, ct, osl, rfl, lk, hcd, _, _⟩ := F.ex
  constructor
  intro A outer s H args us vs Q E p xi hr hot hpin e0 hbi rv hsp
  have vl : vs.length = ps.length := by
    obtain ⟨_, ds, _, hl, _, r, _⟩ := hsp
    rw [← r.len, hl]
  have old := fun b o e => (e0.bs b o e).1
  have KX : K.In s.heap := e0.mod.kin.keeps old
  have lim : s.heap.NoLimit := e0.mod.nolimit.keeps old
  have dp : A.depth < recursionLimit := by have := hr.dp; omega
  refine codeAny_call_function dp (KX _ _ lk) rfl S.co S.gen rfl (codeRec_of KX hcd) (hbi _ _ _ _
    (wpAny_newFunctionEnv_cells S.kind (fun ⟨n, v⟩ hy => (S.par n (List.of_mem_zip hy).1).elim .inl fun q => .inr ⟨q, cellsFrom_some _ _ _ (.inl q)⟩) fun env he s1 x1 => ?_))
  subst he
  obtain ⟨m, ds, h, hl, rl, r, po⟩ := hsp
  have b := (hb cdv A outer s H E p xi (hr.deep _) hot).run (fun cls d _ H => E cls d H) (takes_of rfl rfl rfl rfl)
  have I0 := L2H.inv_startH (CX := L2.CX P w) (w := w) (P := P) (E := E) S hpin e0 vl rv x1
  refine ⟨lim.keeps x1.toInCall.keep, codeAny_func (wpAny_mono (b.run [] s1 (L2.start N vs) H { nx := fun _ H' => Q .non H', rt := Q } I0 ⟨m, _, h, rl, start_env r, ?_⟩) (fun fl s2 hs => ?_) fun e s2 hs => hs)⟩
  · unfold runB at po
    cases q : fb xi (startE N.length ds) h with
    | nx ρ h' => rw [q] at po; exact fun m' H' σ' e r' en => po m' H' .non e r' (by simp only [RD])
    | rt d h' => rw [q] at po; exact fun m' H' v e r' rd => po m' H' v e r' rd
    | er x ρ h' => rw [q] at po; exact fun m' H' σ' c dd e r' en rx => po m' H' c dd e r' rx
    | bk ρ h' => rw [q] at po; exact po.elim
    | ct ρ h' => rw [q] at po; exact po.elim
    | no => rw [q] at po; exact po.elim
  · cases fl with
    | next => obtain ⟨σ2, H2, J, q⟩ := hs; exact ⟨.non, H2, J.os, J.bare, J.base, J.hok, rfl, q⟩
    | ret u => obtain ⟨v, σ2, H2, J, r2, q⟩ := hs; exact ⟨v, H2, J.os, J.bare, J.base, J.hok, r2, q⟩
    | brk => obtain ⟨_, _, _, q⟩ := hs; exact q.elim
    | cont => obtain ⟨_, _, _, q⟩ := hs; exact q.elim
end
section
variable {X : Cx} {k n : Nat} {f : Addr} {fd : FuncData} {ps : List Str} {fs : XI → Fs} {x : Str} {p pos : Pos} {e : Expr} {es : List Expr} {fa : SA} {gD : List D → List D → List D} {xi : XI}
/-- f(e, ..) in a suite -/
theorem re_callX {gb : Prop} (hp : PinX X xi) (F : FnXB gb X.prog X.w X.K X.mg X.base k f fd ps fs) {j : Nat} (hr : RoomXB gb j X.A) (hj : k ≤ j) (hg : Gl X x) (hm : X.mg x = some (.ref f)) (hk : keepIn X.K (.ref f) = true) (hb : DBn X.K X.mg fd ps n [] gD) (hgl : ∀ ds es : List D, ds.length = n → es.length = 0 → (gD ds es).length = ps.length)
    (ha : RA X (e :: es) fa) (hdb : (x == ("__debug__" : Str)) = false := by decide) (he : starEach (e :: es) X.env = (false, eval e X.env) :: starEach es X.env := by rfl) (hpl : (backTo pos (starEach es X.env)).any (·.1) = false := by rfl) :
    RE X (.Call (.Name x p) (e :: es) [] pos) (sCall (fs xi) n 0 gD fa aNil) :=
  ⟨fun W tk => ⟨fun pins s σ H Q I ⟨m, ρ, h, rl, en, po⟩ => by
    refine wpAny_Call_Name_kw (ld_glob I hg hm (callWith_K (h₀ := X.base) I.ok.mod.kin hk (thn ((ha.run W tk).run pos pins s σ H _ I ⟨m, ρ, h, rl, en, po.bind⟩) fun us s1 ⟨vs, H1, I1, r, m1, ds, h1, e1, r1, ra, p1⟩ => ⟨I1.kIn, ?_⟩) he hpl) hdb)
    have p2 : Po X.K X.mg (RD X.K X.mg) m1 H1 (if ds.length = n ∧ ([] : List D).length = 0 then fs xi (gD ds []) h1 else .no) Q (fun c dd H' => W c dd σ H') := p1
    split at p2
    · rename_i hc
      obtain ⟨g, gV, kb, kd⟩ := hb.ex
      obtain ⟨hh, oe, hmem, hz, hf⟩ := hp
      have P1 := I1.pin (xi.a, oe) (List.mem_append_left _ hmem)
      have hpin : L2H.PinOk X.stack H1 s1 (xi.a, oe) := ⟨P1.1, P1.2.1, fun hm => (List.mem_cons.mp (I1.stkSub xi.a hm)).elim P1.2.2.1 P1.2.2.2.1, P1.2.2.2.2⟩
      have r2 := kb.rel r (.nil : Vals [] [])
      refine wpAny_call (codeAny_mono (F.run X.A X.stack s1 H1 ⟨us, []⟩ (g us []) (gV vs []) Q _ (xi.a, oe) xi (hr.mono hj) ⟨hh, rfl, hz, hf⟩ hpin I1.env0 (kb.to s1 us [] I1.kIn (r.length.symm.trans (by rw [← ra.len]; exact hc.1)) rfl) r2
        ⟨m1, gD ds [], h1, hgl ds [] hc.1 rfl, r1, kd m1 H1 ds vs [] [] hc.1 rfl ra (by simp only [RDs]), p2⟩) fun r s' hq => ?_)
      cases r with
      | error er => exact passAt tk σ pins H1 s1 er s' I1 hq
      | ok fl => cases fl with
        | ret u => exact I1.after hq
        | next => exact False.elim hq
        | brk => exact False.elim hq
        | cont => exact False.elim hq
    · exact p2.elim⟩⟩
end

/-! ### the facts, read -/
section
variable {fbs : List Fb} {fn : List He.DefD} {K : PySem.W.Frag} {mg : Str → Option Value}
theorem xcB_ok {C : Addr} : ∀ {b : Nat}, xcB K C b = true → XcF K C := fun {b} h => by
  unfold xcB at h
  simp only [Bool.and_eq_true, decide_eq_true_eq] at h
  obtain ⟨h1, h2, h3, h4, h5, h6, h7⟩ := h
  refine ⟨?_, h3, h4, h5, h6, h7⟩
  match b, h1, h2 with
  | 0, h1, h2 => exact ⟨_, _, _, _, PySem.F.excBase_ValueError, PySem.F.store_ValueError, h1, h2⟩
  | 1, h1, h2 => exact ⟨_, _, _, _, PySem.F.excBase_LookupError, PySem.F.store_LookupError, h1, h2⟩
  | _ + 2, h1, h2 => exact ⟨_, _, _, _, PySem.F.excBase_ArithmeticError, PySem.F.store_ArithmeticError, h1, h2⟩
theorem xkB_ok {C : Addr} (h : xkB K C = true) : XkF K C := by
  unfold xkB at h
  simp only [Bool.and_eq_true, decide_eq_true_eq] at h
  obtain ⟨h1, h2, h3, h4, h5, h6, h7, h8⟩ := h
  exact ⟨h1, h2, h3, h4, h5, h6, h7, h8⟩
theorem Fc.xc (F : Fc fbs fn K mg) (i : Nat) {c : Str} {b : Nat} (h : fbs[i]? = some (.xc c b) := by rfl) : XcF K (He.ga K c) := xcB_ok (show xcB K (He.ga K c) b = true from F.at i h)
theorem Fc.xi (F : Fc fbs fn K mg) (i : Nat) {c f : Str} (h : fbs[i]? = some (.xi c f) := by rfl) : findIn K (.ref (He.ga K c)) "__init__" = some (some (.ref (He.fAd K (c, some "__init__")))) ∧ typeIn K (.ref (He.fAd K (c, some "__init__"))) = some (.type "function") ∧ findIn K (.ref (He.ga K c)) f = some none := by
  have a := F.at i h
  simp only [Fb.ok, Bool.and_eq_true, decide_eq_true_eq] at a
  exact a
theorem look_mem {anc : Anc} {c : Str} {as : List Str} (h : anc.lookup c = some as) : (c, as) ∈ anc := PySem.mem_of_lookup h
theorem Fc.ism (F : Fc fbs fn K mg) (i : Nat) {anc : Anc} {ks : List KN} (h : fbs[i]? = some (.ism anc ks) := by rfl) : IsmF K mg anc (ks.map KN.n) (ks.map (KN.v K)) := by
  obtain ⟨_, X, G⟩ := F.hp
  have a := F.at i h
  intro c as hc C hC
  have b := List.all_eq_true.mp a (c, as) (look_mem hc)
  obtain ⟨b1, b⟩ := He.ba b
  obtain ⟨b2, b3⟩ := He.ba b
  rw [gaB X G b1 hC]
  exact ⟨xkB_ok b2, of_decide_eq_true b3⟩
theorem Fc.exm (F : Fc fbs fn K mg) (i : Nat) {anc : Anc} {ks : List Str} (h : fbs[i]? = some (.exm anc ks) := by rfl) : ∀ c as, anc.lookup c = some as → ∀ C, mg c = some (.ref C) → exmAny K (.ref C) (ks.map fun k => .ref (He.ga K k)) = some (ks.any fun k => as.contains k) := by
  obtain ⟨_, X, G⟩ := F.hp
  have a := F.at i h
  intro c as hc C hC
  have b := List.all_eq_true.mp a (c, as) (look_mem hc)
  obtain ⟨b1, b⟩ := He.ba b
  obtain ⟨b2, b3⟩ := He.ba b
  rw [gaB X G b1 hC]
  exact of_decide_eq_true b2
theorem Fc.exm1 (F : Fc fbs fn K mg) (i : Nat) {anc : Anc} {k : Str} (h : fbs[i]? = some (.exm anc [k]) := by rfl) : ∀ c as, anc.lookup c = some as → ∀ C, mg c = some (.ref C) → exmOne K (.ref C) (.ref (He.ga K k)) = some ([k].any fun k => as.contains k) := by
  obtain ⟨_, X, G⟩ := F.hp
  have a := F.at i h
  intro c as hc C hC
  have b := List.all_eq_true.mp a (c, as) (look_mem hc)
  obtain ⟨b1, b⟩ := He.ba b
  obtain ⟨b2, b3⟩ := He.ba b
  rw [gaB X G b1 hC]
  exact of_decide_eq_true (List.all_eq_true.mp b3 k (by simp))
theorem Fc.xf (F : Fc fbs fn K mg) (i : Nat) {cs : List Str} {f : Str} (h : fbs[i]? = some (.xf cs f) := by rfl) : XfF K mg cs f := by
  obtain ⟨_, X, G⟩ := F.hp
  have a := F.at i h
  intro c hc C hC
  obtain ⟨b1, b⟩ := He.ba (List.all_eq_true.mp a c hc)
  obtain ⟨b2, b3⟩ := He.ba b
  rw [gaB X G b1 hC]
  exact ⟨xkB_ok b2, of_decide_eq_true b3⟩
end
end G
namespace G
open PySem PySem.Spec PyProof.Rows L2
theorem pgo {X : Cx} {x : Str} {C : Addr} {pos : Pos} (hg : Gl X x) (hm : X.mg x = some (.ref C)) (hd : (x == ("__debug__" : Str)) = false := by decide) : PE X (.Name x pos) (tC (.ref C)) := pe_glob hg hm rfl hd
theorem pgb {X : Cx} {x : Str} {n : String} {pos : Pos} (hg : Gl X x) (hm : X.mg x = none) (hv : bootBuiltins x = some (.type n)) (hn : x ≠ "__name__" := by decide) (hd : (x == ("__debug__" : Str)) = false := by decide) : PE X (.Name x pos) (tC (.ty n)) := pe_bltn hg hm hv rfl hn hd
theorem suite_in {X : Cx} {k : Nat} {a : Addr} {oe : Obj} {cls : Value} {d : Option Addr} {pn : List (Addr × Obj)} {body : List Stmt} {g : SS} (hr : RoomG k X.A) (hz : Zc cls d oe) (hf : ∃ vs, oe.data = .fields vs)
    (h : RoomX k (X.suite a ((a, oe) :: pn)).A → PinX (X.suite a ((a, oe) :: pn)) ⟨a, d, cls⟩ → RSs (X.suite a ((a, oe) :: pn)) body g) : RSs (X.suite a ((a, oe) :: pn)) body g := h (hr.hot _) (pinX_suite hz hf)
end G

/-! G19: what raises, tries and suites answer. -/
namespace G
open PySem PySem.Spec PyProof.Rows L2
section
variable {E : D → Ev → Hs → Prop} {N B C : Ev → Hs → Prop} {T : D → Hs → Prop} {h : Hs} {ρ : Ev} {fe : SE} {f g : SS} {ga : SA}
theorem w_raise {c : Str} {fl : List Str} (q : (ga ρ h).xp (fun e h => E e ρ h) fun ds h1 => ds.length = fl.length ∧ E (.ins c (fl.zip ds).reverse) ρ h1) : (sRaise c fl ga ρ h).xp E N T B C := w_toS (q.mono fun ds h1 ⟨e, z⟩ => by rw [if_pos e]; exact z)
theorem w_try {anc : Anc} {b : SS} {hs : List Hdl} (q : (b ρ h).xp (fun e ρ1 h1 => ∃ c fs as, e = .ins c fs ∧ anc.lookup c = some as ∧ (hdl as c fs hs ρ1 h1).xp E N T B C) N T B C) : (sTry anc b hs ρ h).xp E N T B C := by
  unfold sTry
  generalize b ρ h = r at q
  cases r with
  | nx ρ h => exact q
  | rt ρ h => exact q
  | bk ρ h => exact q
  | ct ρ h => exact q
  | no => exact q.elim
  | er e ρ1 h1 =>
    obtain ⟨c, fs, as, rfl, e2, q⟩ := q
    simp only [e2]
    exact q
variable {as : List Str} {c : Str} {fs : List (Str × D)} {ks : List Str} {r : List Hdl} {gx : XI → SS}
theorem w_hdlNo {o : Option Nat} (hm : (ks.any fun k => as.contains k) = false) (q : (hdl as c fs r ρ h).xp E N T B C) : (hdl as c fs ((ks, o, gx) :: r) ρ h).xp E N T B C := by
  unfold hdl
  rw [if_neg (by rw [hm]; decide)]
  exact q
/-- the suite returns -/
theorem w_hdlR {i : Nat} {d0 : D} {h0 : Hs} (hm : (ks.any fun k => as.contains k) = true) (k : ∀ x, (gx x (ρ.set i (some (.exn x c fs))) h).xp noES (fun _ _ => False) (fun d h1 => d = d0 ∧ h1 = h0) (fun _ _ => False) (fun _ _ => False)) (q : T d0 h0) :
    (hdl as c fs ((ks, some i, gx) :: r) ρ h).xp E N T B C := by
  unfold hdl
  rw [if_pos hm, uniq_eq (r := .rt d0 h0)]
  · exact q
  · intro x
    have z := k x
    unfold hd1
    dsimp only
    generalize gx x (ρ.set i (some (.exn x c fs))) h = y at z
    cases y with
    | rt d h => obtain ⟨rfl, rfl⟩ := z; rfl
    | nx _ _ => exact z.elim
    | bk _ _ => exact z.elim
    | ct _ _ => exact z.elim
    | er _ _ _ => exact z.elim
    | no => exact z.elim
/-- it goes on -/
theorem w_hdlN {i : Nat} {ρ0 : Ev} {h0 : Hs} (hm : (ks.any fun k => as.contains k) = true) (k : ∀ x, (gx x (ρ.set i (some (.exn x c fs))) h).xp noES (fun ρ1 h1 => ρ1.set i none = ρ0 ∧ h1 = h0) (fun _ _ => False) (fun _ _ => False) (fun _ _ => False)) (q : N ρ0 h0) :
    (hdl as c fs ((ks, some i, gx) :: r) ρ h).xp E N T B C := by
  unfold hdl
  rw [if_pos hm, uniq_eq (r := .nx ρ0 h0)]
  · exact q
  · intro x
    have z := k x
    unfold hd1
    dsimp only
    generalize gx x (ρ.set i (some (.exn x c fs))) h = y at z
    cases y with
    | nx d h => obtain ⟨rfl, rfl⟩ := z; rfl
    | rt _ _ => exact z.elim
    | bk _ _ => exact z.elim
    | ct _ _ => exact z.elim
    | er _ _ _ => exact z.elim
    | no => exact z.elim
end
section
variable {E : D → Hs → Prop} {Q : D → Hs → Prop} {h : Hs} {ρ : Ev}
theorem w_isX {anc : Anc} {ks : List Str} {i : Nat} {x : XI} {c : Str} {fs : List (Str × D)} {as : List Str} (e : ρ[i]? = some (some (.exn x c fs))) (a : anc.lookup c = some as) (q : Q (.bl (ks.any fun k => as.contains k)) h) : (sIsX anc ks i x ρ h).xp E Q := by
  unfold sIsX
  rw [e]
  dsimp only
  rw [if_pos rfl, a]
  exact q
theorem w_fldX {cs : List Str} {f : Str} {i : Nat} {x : XI} {c : Str} {fs : List (Str × D)} {d : D} (e : ρ[i]? = some (some (.exn x c fs))) (hc : c ∈ cs) (a : fs.lookup f = some d) (q : Q d h) : (sFldX cs f i x ρ h).xp E Q := by
  unfold sFldX
  rw [e]
  dsimp only
  rw [if_pos ⟨rfl, hc⟩, a]
  exact q
end
theorem fldE {o : Option (Str × List (Str × D))} {cs : List Str} {f c : Str} {fs : List (Str × D)} {v : D} {A : D → Prop} (e1 : o = some (c, fs)) (e2 : c ∈ cs) (e3 : fs.lookup f = some v) (q : A v) : ∃ c fs v, o = some (c, fs) ∧ c ∈ cs ∧ fs.lookup f = some v ∧ A v := ⟨c, fs, v, e1, e2, e3, q⟩
theorem p_isntB {a b : Bool} {h : Hs} {E : D → Hs → Prop} {Q : D → Hs → Prop} (q : Q (.bl (!decide (a = b))) h) : (gIsNot (.bl a) (.bl b) h).xp E Q := q
end G

/-! G20: name op= value -/
namespace G
open PySem PySem.Spec PyProof.Rows L2
section
variable {X : Cx}
theorem le_aug {i : Nat} {g : V2} {r : R2} {fe : SE} (hop : Op2 X.K X.mg g r) {W : WX} {D : Ends} {σ : Sl} {H : Hp} (h : LS X.K X.mg W (sSet i (sBin g (sVar i) fe)) D σ H) :
    tAug i (LE X.K X.mg W fe) r D σ H := by
  obtain ⟨m, ρ, h, rl, en, p⟩ := h
  unfold sSet sBin at p
  unfold sVar at p
  cases hd : ρ[i]? with
  | none => rw [hd] at p; exact p.elim
  | some o =>
    cases o with
    | none => rw [hd] at p; exact p.elim
    | some d =>
      rw [hd] at p
      obtain ⟨v, hv, rd⟩ := en.get i d hd
      refine ⟨v, hv, m, ρ, h, rl, en, ?_⟩
      have p2 : PoS X.K X.mg m H (((fe ρ h).bind fun q h2 => g d q h2).toS ρ fun d h1 => RS.nx (List.set ρ i (some d)) h1) D W := p
      exact (p2.toS en).bind.mono (fun y H1 ⟨m1, u, h1, e1, r1, ra, p1⟩ => hop m1 H1 h1 d u v y _ (fun c dd H => W c dd σ H) r1 (RD.ext e1 _ _ rd) ra (p1.mono (fun z H2 ⟨m2, w, h2, e2, r2, rb, q2⟩ => q2.nx r2 ((en.ext e2).set i rb)) fun _ _ _ z => z)) fun _ _ _ z => z
abbrev gAddI : V2 := gI (fun _ _ => True) fun i j => .int (i + j)
abbrev gSubI : V2 := gI (fun _ _ => True) fun i j => .int (i - j)
theorem rs_augAdd {i : Nat} {x : Str} {pos pos' : Pos} {e : Expr} {fe : SE} (hN : X.N.Nodup) (hi : X.N[i]? = some x) (hx : Loc X.env.scope x) (he : RE X e fe)
    (hf : X.fn x = true ∨ X.env.scope.names.lookup x = some .local := by first | exact .inl rfl | exact .inr rfl | assumption) : RSt X (.AugAssign (.Name x pos') .Add e pos) (sSet i (sBin gAddI (sVar i) fe)) :=
  ⟨fun W tk => ps_imp (ps_aug hN hi hx (he.run W tk) (ti := rI (fun _ _ => True) fun i j => .int (i + j)) (fun pins s σ H x y u v Q I rx ry ⟨a, b, e1, e2, _, q⟩ => in_add pins s σ H x y u v Q I rx ry ⟨a, b, e1, e2, q⟩) hf) fun D σ H h => le_aug (g_i fun _ _ _ _ => by simp only [RD]) h⟩
theorem rs_augSub {i : Nat} {x : Str} {pos pos' : Pos} {e : Expr} {fe : SE} (hN : X.N.Nodup) (hi : X.N[i]? = some x) (hx : Loc X.env.scope x) (he : RE X e fe)
    (hf : X.fn x = true ∨ X.env.scope.names.lookup x = some .local := by first | exact .inl rfl | exact .inr rfl | assumption) : RSt X (.AugAssign (.Name x pos') .Sub e pos) (sSet i (sBin gSubI (sVar i) fe)) :=
  ⟨fun W tk => ps_imp (ps_aug hN hi hx (he.run W tk) (ti := rI (fun _ _ => True) fun i j => .int (i - j)) (fun pins s σ H x y u v Q I rx ry ⟨a, b, e1, e2, _, q⟩ => in_sub pins s σ H x y u v Q I rx ry ⟨a, b, e1, e2, q⟩) hf) fun D σ H h => le_aug (g_i fun _ _ _ _ => by simp only [RD]) h⟩
end
section
variable {X : Cx} {k n : Nat} {f C : Addr} {fd : FuncData} {ps ks : List Str} {fs : Fs} {x c m : Str} {p pos apos : Pos} {e o : Expr} {es : List Expr} {kws : List Keyword} {fa fk : SA} {fo : SE} {gD : List D → List D → List D}
/-- f(k = v, ..) -/
theorem re_callK0 (F : FnG X.prog X.w X.K X.mg X.base k f fd ps fs) {j : Nat} (hr : RoomG j X.A) (hj : k ≤ j) (hg : Gl X x) (hm : X.mg x = some (.ref f)) (hk : PySem.W.keepIn X.K (.ref f) = true) (hb : DBn X.K X.mg fd ps 0 ks gD) (hgl : ∀ ds es : List D, ds.length = 0 → es.length = ks.length → (gD ds es).length = ps.length)
    (hkw : RK X kws fk) (hall : (backToKw pos (keywordEach kws X.env)).all (·.1.isSome) = true := by rfl) (hks : (backToKw pos (keywordEach kws X.env)).filterMap (·.1) = ks := by rfl)
    (hdb : (x == ("__debug__" : Str)) = false := by decide)
    (hpl : ((backTo pos (starEach [] X.env)).any (·.1) || (backToKw pos (keywordEach kws X.env)).any (·.1.isNone)) = false := by rfl) :
    RE X (.Call (.Name x p) [] kws pos) (sCall fs 0 ks.length gD aNil fk) :=
  ⟨fun W tk => ⟨fun pins s σ H Q I ⟨m, ρ, h, rl, en, po⟩ => by
    refine wpAny_Call_Name_kw (ld_glob I hg hm ?_ hdb)
    refine PySem.W.callWith_KW0 (h₀ := X.base) I.ok.mod.kin hk hall ?_ hpl
    have po' : Po X.K X.mg (RD X.K X.mg) m H ((fk ρ h).bind fun es h2 => if ([] : List D).length = 0 ∧ es.length = ks.length then fs (gD [] es) h2 else .no) Q (fun c dd H' => W c dd σ H') := po
    refine thn ((hkw.run W tk).run pos pins s σ H _ I ⟨m, ρ, h, rl, en, po'.bind⟩) fun ws s2 ⟨zs, H2, I2, rz, m2, es', h2, e2, r2, rb, p2⟩ => ⟨I2.kIn, ?_⟩
    rw [hks]
    split at p2
    · rename_i hc
      exact run_d (us := []) (vs := []) (ds := []) tk F (hr.mono hj) hb hgl I2 .nil rz r2 (by simp only [RDs]) rb rfl hc.2 p2
    · exact p2.elim⟩⟩
/-- o.m(k = v, ..), o of the class c -/
def sMethK (c : Str) (f : Fs) (j : Nat) (gD : List D → List D → List D) (fo : SE) (fk : SA) : SE := fun ρ h => (fo ρ h).bind fun d h1 => match asIns d h1 with
  | some (c', fs) => if c' = c ∧ fs.lookup m = none then (fk ρ h1).bind fun es h2 => if es.length = j then f (gD [d] es) h2 else .no else .no
  | none => .no
theorem re_methK {pl : Sem Bool} (ho : RE X o fo) (hC : X.mg c = some (.ref C)) (cl : Cls X.K C) (hm : Meth X.K C m f) (F : FnG X.prog X.w X.K X.mg X.base k f fd ps fs) {j : Nat} (hr : RoomG j X.A) (hj : k ≤ j) (hb : DBn X.K X.mg fd ps 1 ks gD)
    (hgl : ∀ ds es : List D, ds.length = 1 → es.length = ks.length → (gD ds es).length = ps.length)
    (hkw : RK X kws fk) (hall : (backToKw pos (keywordEach kws X.env)).all (·.1.isSome) = true := by rfl) (hks : (backToKw pos (keywordEach kws X.env)).filterMap (·.1) = ks := by rfl)
    (hpl : ((backTo pos (starEach [] X.env)).any (·.1) || (backToKw pos (keywordEach kws X.env)).any (·.1.isNone)) = false := by rfl)
    (ht : eval (.Call (.Attribute o m apos) [] kws pos) X.env = (do
      let ov ← eval o X.env
      standAt apos.atName
      let (f, first) ← holding [ov] (getMethod ov m pl)
      callWith pos f first (backTo pos (starEach [] X.env)) (backToKw pos (keywordEach kws X.env))) := by rfl) :
    RE X (.Call (.Attribute o m apos) [] kws pos) (sMethK (m := m) c fs ks.length gD fo fk) :=
  ⟨fun W tk => ⟨fun pins s σ H Q I ⟨mm, ρ, h, rl, en, po⟩ => by
    refine PySem.W.methodCall_KW (pl := pl) (thn ((ho.run W tk).run pins s σ H _ I ⟨mm, ρ, h, rl, en, po.bind⟩) fun u s1 ⟨y, H1, I1, rx, m1, d, h1, e1, r1, rd, p1⟩ => ?_) ht
    split at p1
    · rename_i c' fds hi
      split at p1
      · rename_i hc
        obtain ⟨a, C', dx, ys, rfl, g, fH, rf⟩ := asIns_ok r1 rd hi
        rw [hc.1, hC] at g; cases g
        obtain rfl : u = Value.ref a := rx
        refine getmeth_ok I1 fH cl hm (rf.look.2 hc.2) ?_
        refine PySem.W.callWith_KW0 (first := [.ref a]) (h₀ := X.base) I.ok.mod.kin hm.kp hall ?_ hpl
        refine thn ((hkw.run W tk).run pos pins s1 σ H1 _ I1 ⟨m1, ρ, h1, r1, en.ext e1, p1.bind⟩) fun ws s2 ⟨zs, H2, I2, rz, m2, es', h2, e2, r2, rb, p2⟩ => ⟨I2.kIn, ?_⟩
        rw [hks]
        split at p2
        · rename_i hl
          refine run_d (us := [.ref a]) (vs := [.ref a]) (ds := [d]) tk F (hr.mono hj) hb hgl I2 (.cons rfl .nil) rz r2 ?_ rb rfl hl p2
          simp only [RDs]
          exact ⟨_, [], rfl, RD.ext e2 _ _ rd, rfl⟩
        · exact p2.elim
      · exact p1.elim
    · exact p1.elim⟩⟩
end
section
variable {K : PySem.W.Frag} {mg : Str → Option Value} {x qual : Str} {params : Arguments} {body : List Stmt} {scope : Scope} {dvs : List V} {kws : List (Str × V)} {f : Addr} {fd : FuncData} {ps : List Str}
/-- a def with defaults, none of them keyword-only -/
theorem dbn_df (F : FunD K x qual params body scope dvs kws f fd) (n : Nat) (ks : List Str) (dfD : List D) (is : List Nat) (hd : dvs ≠ []) (hD : ∀ m H, RDs K mg m H dfD dvs)
    (h : ∀ (T : Addr) (kV doc pm : Value) (an : Option Addr) (cdv ct : Value) (us its ws : List Value), us.length = n → its.length = dvs.length → ws.length = ks.length →
      ∃ k, bindArgs (PySem.W.fnOf x qual params body scope (.ref T) kV doc pm an cdv ct) ⟨us, ks.zip ws⟩ = seqItems? (.ref T) >>= k ∧ k (some its.toArray) = pure (ps.zip (pick is (us ++ (its ++ ws))))) : DBn K mg fd ps n ks (gKw is dfD) := by
  obtain ⟨oc, od, dV, kV, doc, pm, an, cdv, ct, osl, rfl, lk, hcd, hD2, hK⟩ := F.ex
  rcases hD2 with ⟨e, _⟩ | ⟨_, T, o, its, m, rfl, lT, oT, rT⟩
  · exact absurd e hd
  · refine ⟨fun us ws => pick is (us ++ (its ++ ws)), fun vs zs => pick is (vs ++ (dvs ++ zs)), ⟨fun s us ws X l1 l2 => ?_, fun r1 r2 => pick_vals (r1.append (rT.append r2))⟩, fun m H ds vs es zs _ _ r1 r2 => pick_rds (r1.app ((hD m H).app r2))⟩
    obtain ⟨k, e1, e2⟩ := h T kV doc pm an cdv ct us its ws l1 rT.length.symm l2
    refine BindsTo.of_looks fun M => ?_
    rw [e1]
    exact looks_items X lT oT (.of_pure e2)
end
section
variable {h : Hs} {E : D → Hs → Prop} {Q : D → Hs → Prop}
theorem p_max2 {i j : Int} (q : Q (.int (if j > i then j else i)) h) : (gMax [.int i, .int j] h).xp E Q := q
theorem p_min2 {i j : Int} (q : Q (.int (if j < i then j else i)) h) : (gMin [.int i, .int j] h).xp E Q := q
theorem p_intB {b : Bool} (q : Q (.int (if b then 1 else 0)) h) : (gInt [.bl b] h).xp E Q := q
theorem p_addI {i j : Int} (q : Q (.int (i + j)) h) : (gAddI (.int i) (.int j) h).xp E Q := q
theorem p_subI {i j : Int} (q : Q (.int (i - j)) h) : (gSubI (.int i) (.int j) h).xp E Q := q
theorem p_slL {ds : List D} {lo hi : Option Int} (q : Q (.lst (G.cutD ds lo hi)) h) : (gSl (.lst ds) lo hi h).xp E Q := q
theorem p_slT {ds : List D} {lo hi : Option Int} (q : Q (.tup (G.cutD ds lo hi)) h) : (gSl (.tup ds) lo hi h).xp E Q := q
end
section
variable {E : D → Ev → Hs → Prop} {N B C : Ev → Hs → Prop} {T : D → Hs → Prop} {ρ : Ev} {h : Hs} {fa : SA}
theorem parE {a b : D} {A : D → D → Prop} (q : A a b) : ∃ x y, [a, b] = [x, y] ∧ A x y := ⟨a, b, rfl, q⟩
theorem parE3 {a b c : D} {A : D → D → D → Prop} (q : A a b c) : ∃ x y z, [a, b, c] = [x, y, z] ∧ A x y z := ⟨a, b, c, rfl, q⟩
theorem w_par {i j : Nat} (q : (fa ρ h).xp (fun e h => E e ρ h) fun ds h1 => ∃ a b, ds = [a, b] ∧ N ((ρ.set i (some a)).set j (some b)) h1) : (sPar i j fa ρ h).xp E N T B C := w_toS (q.mono fun ds h1 ⟨a, b, e, z⟩ => by subst e; exact z)
theorem w_par3 {i j l : Nat} (q : (fa ρ h).xp (fun e h => E e ρ h) fun ds h1 => ∃ a b c, ds = [a, b, c] ∧ N (((ρ.set i (some a)).set j (some b)).set l (some c)) h1) : (sPar3 i j l fa ρ h).xp E N T B C := w_toS (q.mono fun ds h1 ⟨a, b, c, e, z⟩ => by subst e; exact z)
end
section
variable {E : D → Ev → Hs → Prop} {N B C : Ev → Hs → Prop} {T : D → Hs → Prop}
theorem whGo_wp {c : ST} {f : SS} (I : Nat → Ev → Hs → Prop) (k : ∀ n ρ h, I n ρ h → (c ρ h).xp (fun e h => E e ρ h) fun b h1 => (b = true → (f ρ h1).xp E (fun ρ2 h2 => ∃ m, m < n ∧ I m ρ2 h2) T N (fun ρ2 h2 => ∃ m, m < n ∧ I m ρ2 h2)) ∧ (b = false → N ρ h1)) :
    ∀ (u n : Nat) (ρ : Ev) (h : Hs), n < u → I n ρ h → (whGo c f u ρ h).xp E N T B C
  | 0, _, _, _, hn, _ => absurd hn (Nat.not_lt_zero _)
  | u + 1, n, ρ, h, hn, i => by
    unfold whGo
    refine w_toS ((k n ρ h i).mono fun b h1 ⟨z1, z2⟩ => ?_)
    cases b with
    | false => exact z2 rfl
    | true =>
      have z := z1 rfl
      dsimp only
      generalize f ρ h1 = r at z
      cases r with
      | nx ρ2 h2 => obtain ⟨m, hm, i2⟩ := z; exact whGo_wp I k u m ρ2 h2 (by omega) i2
      | ct ρ2 h2 => obtain ⟨m, hm, i2⟩ := z; exact whGo_wp I k u m ρ2 h2 (by omega) i2
      | bk ρ2 h2 => exact z
      | rt d h2 => exact z
      | er e ρ2 h2 => exact z
      | no => exact z.elim
/-- while; n: how many turns are left at most -/
theorem w_while {c : ST} {f : SS} {ρ : Ev} {h : Hs} (I : Nat → Ev → Hs → Prop) (n : Nat) (hn : n < 1000000000) (i : I n ρ h)
    (k : ∀ n ρ h, I n ρ h → (c ρ h).xp (fun e h => E e ρ h) fun b h1 => (b = true → (f ρ h1).xp E (fun ρ2 h2 => ∃ m, m < n ∧ I m ρ2 h2) T N (fun ρ2 h2 => ∃ m, m < n ∧ I m ρ2 h2)) ∧ (b = false → N ρ h1)) : (sWhile c f ρ h).xp E N T B C := whGo_wp I k fuel n ρ h hn i
end
section
variable {E : D → Hs → Prop} {ρ : Ev} {h : Hs} {fa fb : SE}
theorem w_rg2 {Q : (List D × (Hs → Prop)) → Hs → Prop} (q : (fa ρ h).xp E fun d h1 => ∃ a, d = .int a ∧ (fb ρ h1).xp E fun d h2 => ∃ b, d = .int b ∧ (G.inR a ∧ G.inR b) ∧ Q (rngD a b, rel0) h2) : (iRg2 fa fb ρ h).xp E Q := w_bind (q.mono fun d h1 ⟨a, e, z⟩ => by
  subst e
  exact w_bind (z.mono fun d h2 ⟨b, e, e2, z⟩ => by subst e; dsimp only; rw [if_pos e2]; exact z))
theorem w_lstRg2 {Q : D → Hs → Prop} (q : (fa ρ h).xp E fun d h1 => ∃ a, d = .int a ∧ (fb ρ h1).xp E fun d h2 => ∃ b, d = .int b ∧ okRg a b ∧ Q (.lst (rngD a b)) h2) : (sLstRg2 fa fb ρ h).xp E Q := w_bind (q.mono fun d h1 ⟨a, e, z⟩ => by
  subst e
  exact w_bind (z.mono fun d h2 ⟨b, e, e2, z⟩ => by subst e; dsimp only; rw [if_pos e2]; exact z))
theorem p_sum {ns : List Int} {Q : D → Hs → Prop} (q : Q (.int ns.sum) h) : (gSum [.lst (ns.map D.int)] h).xp E Q := by
  have e : asInts (.lst (ns.map D.int)) h = some ns := intsD_map ns
  show R.xp (match asInts (.lst (ns.map D.int)) h with | some ns => R.ok (D.int ns.sum) h | none => .no) E Q
  rw [e]
  exact q
end
end G

/-! G21: sorted(set(texts)) -/
namespace G
open PySem PySem.Spec PyProof.Rows L2
/-! ### sets of texts, in an order that can be told -/
def txK (e : Int × Value) : Str := match e.2 with
  | .str x _ => x
  | _ => Str.empty
def TxE (w : World) (e : Int × Value) : Prop := (∃ t, e.2 = .str (txK e) t) ∧ e.1 = hashStr w (txK e)
def Told (w : World) (t : SetTable) : Prop := Ris t.place.toList ∧ (w.params.followText "set-order" = true ∨ t.led = true)
def Pay (w : World) (es : Array (Int × Value)) (xs : List Str) : Prop := (∀ e ∈ es.toList, TxE w e) ∧ (es.toList.map txK).Perm xs ∧ xs.Nodup
def SetX (w : World) (h : Heap) (a : Addr) (xs : List Str) : Prop := ∃ (o : Obj) (es : Array (Int × Value)) (ep : Nat) (t : SetTable), h.get? a = some o ∧ o.ExactSet ∧ o.data = .set es ep t ∧ Pay w es xs ∧ (es.size < scanBound ∧ t.fits es.size = true) ∧ Told w t
abbrev noTx (w : World) : Obj := { cls := .type "set", dict := none, data := .set #[] 0 (.fresh 0 0 (!w.params.followText "set-order")) }
section
variable {P : Program} {w : World} {h h' : Heap} {a : Addr} {xs : List Str}
theorem SetX.keep (r : SetX w h a xs) (k : ∀ o, h.get? a = some o → h'.get? a = some o) : SetX w h' a xs := by
  obtain ⟨o, es, ep, t, e, r⟩ := r
  exact ⟨o, es, ep, t, k o e, r⟩
theorem setX_no (e : h.get? a = some (noTx w)) : SetX w h a [] :=
  ⟨_, _, _, _, e, ⟨rfl, rfl, rfl⟩, rfl, ⟨(fun e he => by simp at he), .nil, .nil⟩, ⟨by decide, rfl⟩, List.Pairwise.nil, by
    show _ ∨ (!w.params.followText "set-order") = true
    cases w.params.followText "set-order" with
    | true => exact .inl rfl
    | false => exact .inr rfl⟩
theorem pay_elems {es : Array (Int × Value)} (p : Pay w es xs) : ElemsOf (PySem.strKind P w) es.toList := fun e he => by
  obtain ⟨⟨t, e1⟩, e2⟩ := p.1 e he
  rw [e1]
  exact ⟨⟨txK e, strKind_is _ _ _ _, e2⟩, rfl⟩
theorem txE_is {e : Int × Value} (g : TxE w e) (y : Str) : (PySem.strKind P w).is y e.2 = true ↔ txK e = y := by
  obtain ⟨⟨t, e1⟩, _⟩ := g
  constructor
  · intro z
    rw [e1] at z
    exact ((PySem.strKind P w).inj _ _ _ z (strKind_is _ _ _ _)).symm
  · intro z
    rw [e1, z]
    exact strKind_is _ _ _ _
theorem pay_push {es es1 : Array (Int × Value)} {y : Str} {tk : Tok} (p : Pay w es xs) (ny : y ∉ xs) (q : es1.toList.Perm (es.toList ++ [(hashStr w y, .str y tk)])) : Pay w es1 (xs ++ [y]) := by
  refine ⟨fun e he => ?_, ?_, ?_⟩
  · rcases List.mem_append.mp (q.mem_iff.mp he) with z | z
    · exact p.1 e z
    · rw [List.mem_singleton.mp z]
      exact ⟨⟨tk, rfl⟩, rfl⟩
  · refine (q.map txK).trans ?_
    rw [List.map_append]
    exact p.2.1.append_right [y]
  · refine List.nodup_append.mpr ⟨p.2.2, by simp, fun a ha b hb => ?_⟩
    rw [List.mem_singleton.mp hb]
    exact fun e => ny (e ▸ ha)
theorem pay_perm {es es1 : Array (Int × Value)} (p : Pay w es xs) (q : es1.toList.Perm es.toList) : Pay w es1 xs := ⟨fun e he => p.1 e (q.mem_iff.mp he), (q.map txK).trans p.2.1, p.2.2⟩
theorem put_get {o : Obj} {es es1 : Array (Int × Value)} {ep : Nat} {t t1 : SetTable} (ho : h.get? a = some o) (hd : o.data = .set es ep t) : (h.update a (Obj.putSet es1 t1)).get? a = some { o with data := .set es1 (ep + 1) t1 } := by
  have q := Heap.get?_update_self (Obj.putSet es1 t1) ho (by rw [putSet_of es1 t1 hd]; rfl)
  rwa [putSet_of es1 t1 hd] at q
end
section
variable {P : Program} {w : World} {A : Around} {E : Value → Shared → Prop} {s : Shared} {a : Addr} {xs : List Str}
theorem laid_x {gv : Bool → Sem Unit} (hg : ∀ (b : Bool) (z : Shared) (R : Unit → Shared → Prop), R () z → wpAny (model P w) A (gv b) R E z) {o : Obj} {es : Array (Int × Value)} {ep : Nat} {t : SetTable} (ho : s.heap.get? a = some o) (hx : o.ExactSet) (hd : o.data = .set es ep t)
    {e1 : Array (Int × Value)} {t1 : SetTable} (p : Pay w e1 xs) (b1 : e1.size < scanBound) (f1 : t1.fits e1.size = true) (td : Told w t1) {dm : Bool} {R : Option Bool → Shared → Prop} (k : ∀ g, Heap.SameBut a s.heap g → SetX w g a xs → R (some true) { s with heap := g }) :
    wpAny (model P w) A (do
      storeSet a e1 t1
      if (!dm && t1.tooFull) = true then do
        gv (relayAll t1 e1 (SetTable.grown e1.size)).2.2
        storeSet a (relayAll t1 e1 (SetTable.grown e1.size)).1 (relayAll t1 e1 (SetTable.grown e1.size)).2.1
        pure (some true)
      else pure (some true)) R E s := by
  have q1 := put_get (es1 := e1) (t1 := t1) ho hd
  have c1 := Heap.SameBut.update s.heap a (Obj.putSet e1 t1)
  refine wpAny_bind (wpAny_storeSet_of ho hd ?_ (fits_of_scanBound b1))
  split
  · have z1 := relayAll_perm t1 e1 (SetTable.grown e1.size)
    have z2 := relayAll_fits t1 e1 (SetTable.grown e1.size)
    have z3 := relayAll_ris t1 e1 (SetTable.grown e1.size)
    have z4 := relayAll_led t1 e1 (SetTable.grown e1.size)
    generalize relayAll t1 e1 (SetTable.grown e1.size) = Y at z1 z2 z3 z4 ⊢
    obtain ⟨e2, t2, gave⟩ := Y
    dsimp only at z1 z2 z3 z4 ⊢
    have b2 : e2.size < scanBound := by
      rw [← Array.length_toList, z1.length_eq, Array.length_toList]; exact b1
    refine wpAny_bind (hg _ _ _ (wpAny_bind (wpAny_storeSet_of q1 rfl (wpAny_pure (k _ (c1.trans (Heap.SameBut.update _ a _)) ?_)) (fits_of_scanBound b2))))
    exact ⟨_, _, _, _, put_get q1 rfl, hx, rfl, pay_perm p z1, ⟨b2, z2⟩, z3, td.2.imp id fun z => z4.trans z⟩
  · exact wpAny_pure (k _ c1 ⟨_, _, _, _, q1, hx, rfl, p, ⟨b1, f1⟩, td⟩)
/-- one text more -/
theorem add_tx {y : Str} {tk : Tok} {Q : Bool → Shared → Prop} (r : SetX w s.heap a xs) (room : xs.length + 1 < scanBound) (k : ∀ (b : Bool) g, Heap.SameBut a s.heap g → SetX w g a (if y ∈ xs then xs else xs ++ [y]) → Q b { s with heap := g }) :
    wpAny (model P w) A (setAddHashed a (.str y tk) (hashStr w y)) Q E s := by
  obtain ⟨o, es, ep, t, ho, hx, hd, p, ⟨b0, f0⟩, td⟩ := r
  have hkey : (PySem.strKind P w).is y (.str y tk) = true := strKind_is _ _ _ _
  have hel : ElemsOf (PySem.strKind P w) es.toList := pay_elems p
  have hn : es.size = xs.length := by
    rw [← p.2.1.length_eq, List.length_map, Array.length_toList]
  have him : y ∈ xs ↔ ∃ e ∈ es.toList, (PySem.strKind P w).is y e.2 = true := by
    rw [← p.2.1.mem_iff, List.mem_map]
    exact ⟨fun ⟨e, he, q⟩ => ⟨e, he, (txE_is (p.1 e he) y).mpr q⟩, fun ⟨e, he, q⟩ => ⟨e, he, (txE_is (p.1 e he) y).mp q⟩⟩
  have gw : ∀ (b : Bool) {z : Shared} {R : Unit → Shared → Prop}, R () z → wpAny (model P w) A (match b with | true => rule "set.scan.the-table-gave-way" | false => pure ()) R E z := by
    intro b z R q
    cases b with
    | true => exact wpAny_rule q
    | false => exact wpAny_pure q
  unfold setAddHashed setAddHashedIn
  refine wpAny_holding (wpAny_bind (wpAny_setState_of ho hd f0 ?_))
  dsimp only
  rw [byScan_of (knd := PySem.strKind P w) rfl b0 hel]
  simp only [↓reduceIte]
  unfold setAddByScan
  refine wpAny_bind (wpAny_bind (wpAny_rule (wpAny_bind (wpAny_setScan_of (knd := PySem.strKind P w) (k := y) hkey ho hd f0 hel ?_))))
  cases fi : List.findIdx? (fun e => (PySem.strKind P w).is y e.2) es.toList with
  | some j =>
    obtain ⟨hj, pj, _⟩ := List.findIdx?_eq_some_iff_getElem.mp fi
    have iny : y ∈ xs := him.mpr ⟨_, List.getElem_mem hj, pj⟩
    refine wpAny_pure (wpAny_pure (k false s.heap (Heap.SameBut.refl a s.heap) ?_))
    rw [if_pos iny]
    exact ⟨o, es, ep, t, ho, hx, hd, p, ⟨b0, f0⟩, td⟩
  | none =>
    have ny : y ∉ xs := fun z => by
      obtain ⟨e, he, q⟩ := him.mp z
      have c := List.findIdx?_eq_none_iff.mp fi e he
      rw [q] at c
      cases c
    rw [if_neg ny] at k
    have z1 := layNew_perm t es (hashStr w y) (.str y tk)
    have z2 := layNew_fits t es (hashStr w y) (.str y tk)
    have z3 := layNew_ris t es (hashStr w y) (.str y tk) td.1
    have z4 := layNew_led t es (hashStr w y) (.str y tk)
    dsimp only
    generalize layNew t es (hashStr w y) (.str y tk) = Y at z1 z2 z3 z4 ⊢
    obtain ⟨e1, t1, dm, gave⟩ := Y
    dsimp only at z1 z2 z3 z4 ⊢
    rw [Array.toList_push] at z1
    have p1 := pay_push p ny z1
    have b1 : e1.size < scanBound := by
      rw [← Array.length_toList, z1.length_eq, List.length_append, Array.length_toList, hn]; exact room
    have td1 : Told w t1 := ⟨z3, td.2.imp id fun z => z4.trans z⟩
    refine wpAny_bind (gw _ ?_)
    split
    · refine wpAny_bind ?_
      rw [hashByValue_scannable 8 (x := Value.str y tk) rfl]
      refine wpAny_pure (laid_x (fun b z R q => gw b q) ho hx hd p1 b1 ?_ ?_ fun g c r => wpAny_pure (k true g c r))
      · first | (split <;> first | exact z2 | exact SetTable.fits_plain_off z2) | exact z2
      · first | (split <;> exact td1) | exact td1
    · refine wpAny_bind (wpAny_pure ?_)
      simp only [↓reduceIte]
      exact laid_x (fun b z R q => gw b q) ho hx hd p1 b1 z2 td1 fun g c r => wpAny_pure (k true g c r)
/-- the texts so far, each once -/
def uniqX (ys : List Str) : List Str := ys.foldl (fun l y => if y ∈ l then l else l ++ [y]) []
theorem uniq_step (ys : List Str) (y : Str) : uniqX (ys ++ [y]) = if y ∈ uniqX ys then uniqX ys else uniqX ys ++ [y] := by
  unfold uniqX
  rw [List.foldl_append]
  rfl
theorem uniq_len (ys : List Str) : (uniqX ys).length ≤ ys.length := by
  have key : ∀ (ys l : List Str), (ys.foldl (fun l y => if y ∈ l then l else l ++ [y]) l).length ≤ l.length + ys.length := by
    intro ys
    induction ys with
    | nil => intro l; simp
    | cons y ys ih =>
      intro l
      rw [List.foldl_cons]
      refine Nat.le_trans (ih _) ?_
      split
      · rw [List.length_cons]; omega
      · rw [List.length_append, List.length_singleton, List.length_cons]; omega
  have := key ys []
  simpa [uniqX] using this
theorem uniq_mem (ys : List Str) (x : Str) : x ∈ uniqX ys ↔ x ∈ ys := by
  have key : ∀ (ys l : List Str), x ∈ ys.foldl (fun l y => if y ∈ l then l else l ++ [y]) l ↔ x ∈ l ∨ x ∈ ys := by
    intro ys
    induction ys with
    | nil => intro l; simp
    | cons y ys ih =>
      intro l
      rw [List.foldl_cons, ih, List.mem_cons]
      split
      · rename_i hy
        constructor
        · rintro (h | h)
          · exact .inl h
          · exact .inr (.inr h)
        · rintro (h | rfl | h)
          · exact .inl h
          · exact .inl hy
          · exact .inr h
      · rw [List.mem_append, List.mem_singleton, or_assoc]
  have := key ys []
  simpa [uniqX] using this
theorem loop_tx {I : Addr} {fp wr : List Addr} {G : Array GenState → Array GenState → Prop} {n : Nat} {Pv : Nat → Value → Prop} {St : Nat → Shared → Prop} {R : Result → Shared → Prop}
    (W : WalksS P w A.in1 I fp wr G n Pv St) (D : Addr) (nf : D ∉ fp) (ys : List Str) (hn : n = ys.length) (room : ys.length + 1 < scanBound) (hv : ∀ i v, Pv i v → ∃ y t, ys[i]? = some y ∧ v = .str y t)
    (k : ∀ z, Moved (D :: wr) G s z → SetX w z.heap D (uniqX ys) → R (.ok (.ret .none)) z) : ∀ (j i : Nat) (z : Shared), n - i = j → i ≤ n → St i z → Moved (D :: wr) G s z → SetX w z.heap D (uniqX (ys.take i)) →
      codeAny (model P w) A (.builtin "set.update.loop" ⟨[.ref D, .ref I], []⟩) R z
  | 0, i, z, hj, hi, st, mv, r => by
    have ei : i = n := by omega
    subst ei
    refine codeAny_builtin F.entry_set_update_loop ?_
    rw [Around.under_plainId F.plain_set_update_loop _]
    show wpAny _ A.in1 (pyNext (.ref I) >>= _) _ _ z
    refine wpAny_bind (W.done z _ _ st fun z1 m => ?_)
    show wpAny _ A.in1 (ret Value.none) _ _ z1
    rw [List.take_of_length_le (Nat.le_of_eq hn.symm)] at r
    have m1 := m.mono (wr' := D :: wr) fun b hb => List.mem_cons_of_mem _ hb
    exact wpAny_pure (k z1 (Moved.trans W.gtrans mv m1) (r.keep fun o e => m.heap D o (fun q => nf (W.sub _ q)) e))
  | j + 1, i, z, hj, hi, st, mv, r => by
    have lt : i < n := by omega
    refine codeAny_builtin F.entry_set_update_loop ?_
    rw [Around.under_plainId F.plain_set_update_loop _]
    show wpAny _ A.in1 (pyNext (.ref I) >>= _) _ _ z
    refine wpAny_bind (W.item i z _ _ lt st fun v z1 pv st1 m => ?_)
    obtain ⟨y, t, ey, rfl⟩ := hv i v pv
    have r1 : SetX w z1.heap D (uniqX (ys.take i)) := r.keep fun o e => m.heap D o (fun q => nf (W.sub _ q)) e
    have m1 := m.mono (wr' := D :: wr) fun b hb => List.mem_cons_of_mem _ hb
    show wpAny _ A.in1 (holding [Value.str y t] (setAdd D (.str y t)) >>= _) _ _ z1
    refine wpAny_bind (wpAny_holding ?_)
    unfold setAdd
    refine wpAny_holding (wpAny_bind ((PySem.strKind P w).pyHash (k := y) (strKind_is _ _ _ _) ?_))
    refine add_tx (s := { z1 with toks := z1.toks + 1 }) r1 ?_ fun b g c r2 => ?_
    · have := uniq_len (ys.take i)
      rw [List.length_take] at this
      omega
    have r3 : SetX w g D (uniqX (ys.take (i + 1))) := by
      rw [List.take_add_one, ey, Option.toList_some, uniq_step]
      exact r2
    refine wpAny_pure ⟨plainId_quiet F.plain_set_update_loop _, loop_tx W D nf ys hn room hv k j (i + 1) _ (by omega) lt (W.frame _ z1 _ _ st1 (Nat.le_succ _) fun b hb o e => ?_) ?_ r3⟩
    · exact (c.2 b fun q => nf (q ▸ hb)).trans e
    · exact Moved.trans W.gtrans mv (m1.then_heap (Nat.le_succ _) fun b o hb e => (c.2 b fun q => hb (by rw [q]; exact List.mem_cons_self)).trans e)
/-- set(l), l a list of texts -/
theorem set_tx {l : Addr} {its : Array Value} {ys : List Str} {Q : Value → Shared → Prop} (hh : A.handled = none) (hl : s.heap.IsList l its) (hy : StrsAre its.toList ys) (room : ys.length + 1 < scanBound)
    (k : ∀ (g : Heap) (tk : Nat), SetX w g s.heap.objs.size (uniqX ys) → (∀ b o, s.heap.get? b = some o → g.get? b = some o) → Q (.ref s.heap.objs.size) { s with heap := g, toks := tk }) : wpAny (model P w) A (call (.type "set") [.ref l]) Q E s := by
  have sz : its.size = ys.length := by
    rw [← Array.length_toList]; exact StrsAre.len_eq hy
  have hli := F.called_set.init.lookup
  obtain ⟨c, tl, hmro⟩ := F.called_set.mro
  have t1 := F.called_set.made
  have t2 := F.called_set.sub
  have t3 := F.called_set.notType
  have t4 := F.called_set.canCreate
  have t5 := F.typeCall_set_1 (.ref l)
  generalize eD : s.heap.objs.size = D at k
  have hD : (s.heap.push (noTx w)).get? D = some (noTx w) := by subst eD; exact Heap.get?_push_size _ rfl
  have sz1 : (s.heap.push (noTx w)).objs.size = D + 1 := by subst eD; exact Heap.size_push ..
  refine wpAny_call (codeAny_of_tree ?_)
  show wpAny (model P w) _ (callAny (.type "set") _) _ _ s
  refine wpAny_pure ⟨Code.quiet_builtin _ (by decide +kernel), codeAny_builtin F.entry_type_call ?_⟩
  rw [Around.under_plain (weight_type_call_type "set" [.ref l] []) rfl]
  repeat (any_goals first | assumption | wp_step)
  refine codeAny_mono (code_set_led1 (.ref l) (E := E) (Q₁ := fun v z => v = .ref D ∧ z = { s with heap := s.heap.push (noTx w) }) ⟨by rw [eD], rfl⟩) fun r z hz => ?_
  cases r with
  | error e => exact hz
  | ok fl =>
    cases fl with
    | next => exact hz.elim
    | brk => exact hz.elim
    | cont => exact hz.elim
    | ret v =>
      obtain ⟨rfl, rfl⟩ := hz
      have hT : Shared.TypeIs { s with heap := s.heap.push (noTx w) } (.ref D) "set" := ⟨_, hD, rfl⟩
      have hbi := F.called_set.init.bind (.ref D)
      repeat (any_goals first | assumption | wp_step)
      refine codeAny_mono (codeAny_call_builtin (R := wants (fun r z => r = .none ∧ ∃ g tk, z = { s with heap := g, toks := tk } ∧ SetX w g D (uniqX ys) ∧ ∀ b o, s.heap.get? b = some o → g.get? b = some o) E) F.called_set.init.plain F.entry_set_init (check_set_init_1 hT ?_)) fun r z hz => ?_
      · obtain ⟨⟨oc, od, oo, os⟩, hol, hcl, nl, hdl⟩ := id hl
        simp only at hcl hdl
        subst hcl hdl
        have ho2 := Heap.get?_push_of_some (noTx w) hol
        have u1 := F.sub_list_set
        have u2 := F.sub_list_frozenset
        have u3 : (Value.type "list" == Value.type "dict") = false := by decide
        have lt : l < D := by rw [← eD]; exact Heap.lt_size hol
        unfold Builtin.«set.__init__» noKeywords Builtin.Frozenset.updateFrom
        generalize eI : pyIter = PI
        wp_walk
        subst eI
        refine wpAny_pyIter_list (hl.push (noTx w)) (wpAny_bind (wpAny_runValue ?_))
        have h3 : A.in1.in1.in1.handled = none := by simp [hh]
        have ne : l ≠ (s.heap.push (noTx w)).objs.size := by rw [sz1]; exact Nat.ne_of_lt (Nat.lt_succ_of_lt lt)
        have nf : D ∉ [(s.heap.push (noTx w)).objs.size, l] := by
          rw [sz1]
          intro hm
          rcases List.mem_cons.mp hm with e | e
          · exact absurd e (Nat.ne_of_lt (Nat.lt_succ_self D))
          · rw [List.mem_singleton] at e
            exact absurd e (Nat.ne_of_gt lt)
        refine loop_tx ((Walks.list h3 _ l ne its).toS) D nf ys sz room (fun i v hv => ?_) (fun z m r => ?_) its.size 0 _ rfl (Nat.zero_le _) ⟨⟨_, Heap.get?_push_size _ rfl, rfl, rfl⟩, ((hl.push (noTx w)).push _)⟩ ⟨fun b o hb e => e, rfl, rfl, rfl, Nat.le_refl _⟩ ?_
        · obtain ⟨t, e⟩ := SS.strs_at hy i v (by rw [Array.getElem?_toList]; exact hv)
          have hi : i < ys.length := by rw [← sz]; exact (Array.getElem?_eq_some_iff.mp hv).1
          refine ⟨ys[i], t, List.getElem?_eq_getElem hi, ?_⟩
          rw [e, List.getD_eq_getElem?_getD, List.getElem?_eq_getElem hi, Option.getD_some]
        · obtain ⟨g, gs, dr, tk, os⟩ := z
          have e1 : gs = s.gens := m.gens
          have e2 : dr = s.drawn := m.drawn
          have e3 : os = s.os := m.os
          subst e1 e2 e3
          show wpAny _ _ _ _ _ _
          refine wpAny_pure ?_
          show wpAny _ _ (ret Value.none) _ _ _
          refine wpAny_pure ⟨rfl, g, tk, rfl, r, fun b o e => ?_⟩
          have hb : b < D := by rw [← eD]; exact Heap.lt_size e
          refine m.heap b o (fun hm => ?_) (Heap.get?_push_of_some _ (Heap.get?_push_of_some _ e))
          rcases List.mem_cons.mp hm with q | q
          · exact absurd q (Nat.ne_of_lt hb)
          · rw [sz1] at q
            simp only [List.mem_cons, List.mem_singleton, List.not_mem_nil, or_false] at q
            exact absurd q (Nat.ne_of_lt (Nat.lt_succ_of_lt hb))
        · exact setX_no (Heap.get?_push_of_some _ hD)
      · cases r with
        | error e => exact hz
        | ok fl2 =>
          cases fl2 with
          | next => exact hz.elim
          | brk => exact hz.elim
          | cont => exact hz.elim
          | ret v2 =>
            obtain ⟨rfl, g, tk, rfl, r, kp⟩ := hz
            repeat (any_goals first | assumption | wp_step)
            exact k _ _ r kp
end
end G

/-! G22: sorted(set(texts)), on -/
namespace G
open PySem PySem.Spec PyProof.Rows L2
section
variable {P : Program} {w : World} {A : Around} {E : Value → Shared → Prop} {s : Shared} {a : Addr} {xs : List Str}
/-- sorted(set) -/
theorem sorted_tx {Q : Value → Shared → Prop} (r : SetX w s.heap a xs) (hh : A.handled = none) (l64 : xs.length < 64)
    (k : ∀ (z : Shared) (p : Addr) (out : Array Value) (c : Nat) (ys : List Str), (∀ b o, s.heap.get? b = some o → z.heap.get? b = some o) → z.gens = s.gens → z.os = s.os → s.heap.objs.size ≤ p → z.heap.get? p = some (seqObj "list" out c) → StrsAre out.toList ys → ys.Perm xs → sortedS ys = true → Q (.ref p) z) :
    wpAny (model P w) A (call (.builtin "sorted") [.ref a]) Q E s := by
  obtain ⟨o, es, ep, t, ho, hx, hd, p, ⟨b0, f0⟩, td⟩ := r
  have hn : es.size = xs.length := by
    rw [← p.2.1.length_eq, List.length_map, Array.length_toList]
  refine Calls.call_function_entry kind_sorted plain_sorted entry_sorted (args_sorted1 _) ?_
  unfold Builtin.«sorted»
  refine wpAny_bind (m := checkCount "sorted" 1 1 _) (wpAny_pure ?_)
  refine wpAny_bind (collect_set (A := A.in1) hh ⟨o, ho, hx.1, hd⟩ f0 b0 td.1 td.2 fun z vs k1 hz g1 o1 pm => ?_)
  have vl : vs.length = xs.length := by rw [pm.length_eq, List.length_map, Array.length_toList, hn]
  have vk : ∃ ys, StrsAre vs ys ∧ ys.Perm xs := by
    have key : ∀ l : List Value, (∀ v ∈ l, ∃ e, TxE w e ∧ e.2 = v) → StrsAre l (l.map fun v => txK (0, v)) := by
      intro l
      induction l with
      | nil => intro _; exact .nil
      | cons v l ih =>
        intro h
        obtain ⟨e, ⟨⟨t, e1⟩, _⟩, rfl⟩ := h v List.mem_cons_self
        rw [List.map_cons]
        have : txK (0, e.2) = txK e := rfl
        rw [this]
        rw [e1]
        exact .cons _ t (by
          have := ih fun u hu => h u (List.mem_cons_of_mem _ hu)
          exact this)
    refine ⟨vs.map fun v => txK (0, v), key vs fun v hv => ?_, ?_⟩
    · obtain ⟨e, he, q⟩ := List.mem_map.mp (pm.mem_iff.mp hv)
      exact ⟨e, p.1 e he, q⟩
    · have q := pm.map fun v => txK (0, v)
      rw [List.map_map] at q
      exact q.trans p.2.1
  obtain ⟨ys, hS, py⟩ := vk
  refine wpAny_bind (wpAny_newList ?_ (by rw [vl, sizeLine_eq]; omega))
  have hL : (z.heap.push (seqObj "list" vs.toArray 0)).get? z.heap.objs.size = some (seqObj "list" vs.toArray 0) := Heap.get?_push_size _ rfl
  refine wpAny_bind (wpAny_holding (wpAny_call_entry slot_list_sort ⟨_, hL, rfl⟩ entry_list_sort (list_sort_treeK strKind_oneLt hL hS.keysOf (fun v1 v2 rest e => keyKind_strs (by rw [← e]; exact hS)) (by rw [vl]; exact l64) fun st q1 q2 => ?_) (args_list_sort _)))
  obtain ⟨zs, h1, h2, h3⟩ := sorted_out_str hS q1 q2
  obtain ⟨c, hc⟩ := sortedHeap_at (vs := vs) (out := (arrOf st).map (·.2)) hL
  refine ⟨_, rfl, wpAny_pure ⟨_, rfl, k { z with heap := sortedHeap (z.heap.push (seqObj "list" vs.toArray 0)) z.heap.objs.size vs ((arrOf st).map (·.2)) } z.heap.objs.size _ c zs (fun b u e => ?_) g1 o1 hz hc h1 (h2.trans py) h3⟩⟩
  have q := k1 b u e
  have lt := Heap.lt_size q
  show (sortedHeap (z.heap.push (seqObj "list" vs.toArray 0)) z.heap.objs.size vs ((arrOf st).map (·.2))).get? b = some u
  rw [sortedHeap_old (Nat.ne_of_lt lt) (by rw [Heap.size_push]; exact Nat.lt_succ_of_lt lt)]
  exact Heap.get?_push_of_some _ q
end
/-! ### .. as a rule -/
def TxO (w : World) (a : Addr) (xs : List Str) : HO := .ext fun h => SetX w h a xs
def rSetTx (K : PySem.W.Frag) (w : World) : List V → Hp → VK → Prop := fun vs H Q => ∃ (a : Addr) (ys : List Str), vs = [V.ref a] ∧ SqL K H a (ys.map V.str) ∧ ys.length < 64 ∧ ∀ D, H D = none → Q (.ref D) (upd H D (TxO w D (uniqX ys)))
def rSortTx (w : World) : List V → Hp → VK → Prop := fun vs H Q => ∃ (a : Addr) (xs : List Str), vs = [V.ref a] ∧ H a = some (TxO w a xs) ∧ xs.length < 64 ∧ ∀ (ys : List Str) (p : Addr), ys.Perm xs → sortedS ys = true → H p = none → Q (.ref p) (upd H p (.lst (ys.map V.str)))
section
variable {X : Cx}
theorem cr_setTx (hc : X.calm = true) : CallR X (.type "set") (rSetTx X.K X.w) := by
  intro pins s σ H vs us Q I r ⟨a, ys, e, hs, l64, q⟩
  subst e
  obtain ⟨its, rv, hl, _⟩ := I.list hs
  rw [Vals.ref1 r]
  refine set_tx (I.ok.hd hc) hl.isList (by simpa using rv.strs) (by unfold scanBound; omega) fun g tk rx k => ?_
  have hD : H s.heap.objs.size = none := I.hok.fresh (Nat.le_refl _)
  refine ⟨.ref s.heap.objs.size, _, I.laid (t' := tk) k (Nat.le_refl _) ?_, rfl, q _ hD⟩
  obtain ⟨o, _, _, _, ho, _⟩ := id rx
  exact ⟨rx, ⟨o, ho⟩, fun h1 h2 p z => SetX.keep p z⟩
theorem cr_sortTx (hc : X.calm = true) : CallR X (.builtin "sorted") (rSortTx X.w) := by
  intro pins s σ H vs us Q I r ⟨a, xs, e, ha, l64, q⟩
  subst e
  rw [Vals.ref1 r]
  refine sorted_tx (I.hok a _ ha).1 (I.ok.hd hc) l64 fun z p out c ys k g o hp hg hS py hs => ?_
  have hn : H p = none := I.hok.fresh hp
  have hl : (ys.map V.str).length ≤ sizeLine := by rw [List.length_map, py.length_eq, sizeLine_eq]; omega
  have J : Inv X pins σ (upd H p (.lst (ys.map V.str))) { s with heap := z.heap, gens := z.gens, drawn := z.drawn, toks := z.toks } :=
    I.call (ch := []) (Un.laid k hp hn) (I.hok.laid k hp ⟨hl, out.toList, c, vals_of_strs hS, hg⟩) (by rw [g]; exact I.bare) fun _ z => nomatch z
  have e : z = { s with heap := z.heap, gens := z.gens, drawn := z.drawn, toks := z.toks } := by
    cases z
    cases s
    cases o
    rfl
  rw [e]
  exact ⟨.ref p, _, J, rfl, q ys p py hs hn⟩
/-- sorted(set(texts)) -/
def sSortSet (f : SE) : SE := fun ρ h => (f ρ h).bind fun d h1 => match asStrsL d h1 with
  | some xs => if xs.length < 64 then .ok (.lst ((sortS (uniqX xs)).map .str)) h1 else .no
  | none => .no
theorem re_sortSet {e : Expr} {fe : SE} {p p2 pos pos2 : Pos} (hc : X.calm = true) (hg : Gl X "sorted") (hm : X.mg "sorted" = none) (hg2 : Gl X "set") (hm2 : X.mg "set" = none) (ha : RE X e fe)
    (s1 : starEach [e] X.env = (false, eval e X.env) :: starEach [] X.env := by rfl) (s2 : starEach [.Call (.Name "set" p2) [e] [] pos2] X.env = (false, eval (.Call (.Name "set" p2) [e] [] pos2) X.env) :: starEach [] X.env := by rfl) (n1 : (backTo pos2 (starEach [] X.env)).any (·.1) = false := by rfl) (n2 : (backTo pos (starEach [] X.env)).any (·.1) = false := by rfl) :
    RE X (.Call (.Name "sorted" p) [.Call (.Name "set" p2) [e] [] pos2] [] pos) (sSortSet fe) :=
  ⟨fun W tk => pe_imp (pe_callB (cr_sortTx hc) hg hm (by decide +kernel) (pa_cons (pe_callTy (cr_setTx hc) hg2 hm2 (by decide +kernel) (pa_cons (ha.run W tk) pa_nil s1) (he := s1) (hpl := n1)) pa_nil s2) (he := s2) (hpl := n2)) fun σ H Q ⟨m, ρ, h, rl, en, po⟩ => by
    refine ⟨m, ρ, h, rl, en, po.bind.mono (fun x H1 ⟨m1, d, h1, e1, r1, ra, p1⟩ => ?_) fun _ _ _ z => z⟩
    split at p1
    · rename_i xs hx
      split at p1
      · rename_i l64
        obtain ⟨a, rfl, f⟩ := asStrsL_ok r1 ra hx
        refine ⟨a, xs, rfl, f, l64, fun D hD => ⟨D, uniqX xs, rfl, upd_same, Nat.lt_of_le_of_lt (uniq_len xs) l64, fun ys q py hs hq => ?_⟩⟩
        have es := sort_uniq py hs
        subst es
        have x1 : Ext m1 H1 m1 (upd H1 D (TxO X.w D (uniqX xs))) := Ext.new hD
        have r2 := r1.new (o := TxO X.w D (uniqX xs)) hD
        have x2 : Ext m1 (upd H1 D (TxO X.w D (uniqX xs))) m1 (upd (upd H1 D (TxO X.w D (uniqX xs))) q (.lst ((sortS (uniqX xs)).map V.str))) := Ext.new hq
        refine p1 m1 _ _ (x1.trans x2) (r2.new hq) ?_
        simp only [RD]
        exact ⟨q, _, rfl, upd_same, fun z => r2.there z hq, RDs.of_strs _⟩
      · exact p1.elim
    · exact p1.elim⟩
end
section
variable {E : D → Hs → Prop} {Q : D → Hs → Prop} {ρ : Ev} {h : Hs} {f : SE}
theorem w_sortSet (q : (f ρ h).xp E fun d h1 => ∃ xs, asStrsL d h1 = some xs ∧ xs.length < 64 ∧ Q (.lst ((sortS (uniqX xs)).map .str)) h1) : (sSortSet f ρ h).xp E Q := w_bind (q.mono fun d h1 ⟨xs, e, e2, z⟩ => by rw [e]; dsimp only; rw [if_pos e2]; exact z)
end
end G

/-! G23: dicts that are written, d.get(k, x) -/
namespace G
open PySem PySem.Spec PyProof.Rows L2
section
variable {X : Cx} {pos apos cpos : Pos} {o e f : Expr} {fo fk fd : SE}
def sDctR : SE := fun _ h => .ok (.ref h.length) (h ++ [.dct []])
theorem re_dctR : RE X (.Dict [] [] pos) sDctR := ⟨fun W _ => pe_imp pe_dnewK fun σ H Q ⟨m, ρ, h, rl, en, p⟩ => by
  intro d hd
  refine p (m ++ [d]) _ _ (Ext.alloc hd) (rl.alloc hd ⟨[], upd_same, by simp only [RDk]⟩) ?_
  simp only [RD]
  exact ⟨d, rfl, by rw [List.getElem?_append_right (by rw [rl.len]; omega), rl.len]; simp⟩⟩
def sDGet2 (fo fk fd : SE) : SE := fun ρ h => (fo ρ h).bind fun o h1 => if (asDct o h1).isSome = true then (fk ρ h1).bind fun k h2 => (fd ρ h2).bind fun d h3 => match asDct o h3, keyD k with
  | some kvs, some kk => .ok ((valD kvs kk).getD d) h3
  | _, _ => .no else .no
theorem re_dget2 (hr : Rm X.A) (ho : RE X o fo) (hk : RE X e fk) (hd : RE X f fd) (base : attributeBase o "get" X.env (eval o X.env) = eval o X.env := by rfl)
    (few : ((backTo cpos (starEach [e, f] X.env)).all (fun x => !x.1) && (backToKw cpos (keywordEach [] X.env)).all (fun x => x.1.isSome) && decide (([e, f] : List Expr).length + ([] : List Keyword).length + (if ([] : List Keyword).isEmpty then 0 else 1) < 30)) = true := by rfl)
    (line : (apos.endLine == cpos.line) = true := by rfl) (trees : backTo cpos (starEach [e, f] X.env) = [(false, eval e X.env), (false, eval f X.env)] := by rfl) :
    RE X (.Call (.Attribute o "get" apos) [e, f] [] cpos) (sDGet2 fo fk fd) :=
  ⟨fun W tk => pe_imp (pe_dget2 (by have := hr.un; omega) (ho.run W tk) (hk.run W tk) (hd.run W tk) ⟨base, few, line, trees⟩) fun σ H Q ⟨m, ρ, h, rl, en, p⟩ => ⟨m, ρ, h, rl, en, p.bind.mono (fun x H1 ⟨m1, d1, h1, e1, r1, ra, p1⟩ => by
    split at p1
    · rename_i hs
      obtain ⟨kvs1, hk1⟩ := Option.isSome_iff_exists.mp hs
      obtain ⟨a, xs1, rfl, f1, _⟩ := asDct_ok r1 ra hk1
      refine ⟨a, rfl, .inl ⟨xs1, .inl f1⟩, m1, ρ, h1, r1, en.ext e1, p1.bind.mono (fun y H2 ⟨m2, d2, h2, e2, r2, rb, p2⟩ => ?_) fun _ _ _ z => z⟩
      refine ⟨m2, ρ, h2, r2, en.ext (e1.trans e2), p2.bind.mono (fun z H3 ⟨m3, d3, h3, e3, r3, rc, p3⟩ => ?_) fun _ _ _ z => z⟩
      split at p3
      · rename_i kvs kk q1 q2
        obtain ⟨a', xs, ea, f3, rk⟩ := asDct_ok r3 (RD.ext (e2.trans e3) _ _ ra) q1
        cases ea
        have ek : y = kV kk := keyD_ok rb q2
        subst ek
        refine ⟨_, DGet.k f3, ?_⟩
        cases hv : valD kvs kk with
        | some d =>
          obtain ⟨w, hw, rw'⟩ := (valD_ok rk).1 d hv
          rw [hw]
          rw [hv] at p3
          exact p3.ok r3 rw'
        | none =>
          rw [(valD_ok rk).2 hv]
          rw [hv] at p3
          exact p3.ok r3 rc
      · exact p3.elim
    · exact p1.elim) fun _ _ _ z => z⟩⟩
end
section
variable {E : D → Hs → Prop} {Q : D → Hs → Prop} {ρ : Ev} {h : Hs} {fo fk fd f : SE}
theorem w_dctR (q : Q (.ref h.length) (h ++ [.dct []])) : (sDctR ρ h).xp E Q := q
theorem w_dget2 (q : (fo ρ h).xp E fun o h1 => (asDct o h1).isSome = true ∧ (fk ρ h1).xp E fun k h2 => (fd ρ h2).xp E fun d h3 => ∃ kvs kk, asDct o h3 = some kvs ∧ keyD k = some kk ∧ Q ((valD kvs kk).getD d) h3) : (sDGet2 fo fk fd ρ h).xp E Q := w_bind (q.mono fun o h1 ⟨e, z⟩ => by
  rw [if_pos e]
  exact w_bind (z.mono fun k h2 z => w_bind (z.mono fun d h3 ⟨kvs, kk, e1, e2, z⟩ => by rw [e1, e2]; exact z)))
end
end G

/-! G24: xs.insert(i, y), xs.pop() -/
namespace G
open PySem PySem.Spec PyProof.Rows L2
def gPop : VM := fun d es h => match es with
  | [] => match mutL d h with
    | some (n, ds) => match ds[ds.length - 1]? with
      | some y => .ok y (h.set n (.lst ds.dropLast))
      | none => .no
    | none => .no
  | _ => .no
theorem RDs.dropLast {K : PySem.W.Frag} {mg : Str → Option Value} {m : List Addr} {H : Hp} {ds : List D} {vs : List V} (r : RDs K mg m H ds vs) : RDs K mg m H ds.dropLast vs.dropLast := by
  rw [List.dropLast_eq_take, List.dropLast_eq_take, ← r.len]
  exact r.take _
theorem g_pop {K : PySem.W.Frag} {mg : Str → Option Value} : MtOk K mg gPop rPop := by
  intro m H h d x ds vs Q Wx rl r rs po
  unfold gPop at po
  split at po
  · simp only [RDs] at rs
    subst rs
    split at po
    · rename_i n ds hd
      split at po
      · rename_i y hy
        obtain ⟨a, xs, rfl, ha, f, rx⟩ := mutL_ok rl r hd
        obtain ⟨v, hv, rv⟩ := rx.get hy
        exact ⟨a, xs, v, rfl, rfl, f, by rw [← rx.len]; exact hv, po.wrL rl ha rx.dropLast rv⟩
      · exact po.elim
    · exact po.elim
  · exact po.elim
def gInsert : VM := fun d es h => match es with
  | [.int i, y] => match mutL d h with
    | some (n, ds) => if ds.length < sizeLine ∧ 0 ≤ i ∧ i < 2 ^ 63 then .ok .non (h.set n (.lst (ds.take i.toNat ++ [y] ++ ds.drop i.toNat))) else .no
    | none => .no
  | _ => .no
theorem g_insert {K : PySem.W.Frag} {mg : Str → Option Value} : MtOk K mg gInsert (fun x vs H Q => ∃ (l : Addr) (xs : List V) (i : Int) (y : V), x = .ref l ∧ vs = [.int i, y] ∧ H l = some (.lst xs) ∧ xs.length < sizeLine ∧ 0 ≤ i ∧ i < 2 ^ 63 ∧
    Q .non (upd H l (.lst (xs.take i.toNat ++ [y] ++ xs.drop i.toNat)))) := by
  intro m H h d x ds vs Q Wx rl r rs po
  unfold gInsert at po
  split at po
  · rename_i i y
    obtain ⟨v1, v2, rfl, r1, r2⟩ := rs.two
    simp only [RD] at r1
    subst r1
    split at po
    · rename_i n ds hd
      split at po
      · rename_i hc
        obtain ⟨a, xs, rfl, ha, f, rx⟩ := mutL_ok rl r hd
        refine ⟨a, xs, i, v2, rfl, rfl, f, by rw [← rx.len]; exact hc.1, hc.2.1, hc.2.2, po.wrL rl ha (((rx.take _).append ?_).append (rx.drop _)) (by simp only [RD])⟩
        simp only [RDs]
        exact ⟨v2, [], rfl, r2, rfl⟩
      · exact po.elim
    · exact po.elim
  · exact po.elim
section
variable {X : Cx} {o e f : Expr} {fo : SE} {fa : SA} {apos cpos : Pos}
theorem rm_pop (ho : RE X o fo) (hbase : attributeBase o "pop" X.env (eval o X.env) = eval o X.env := by rfl) (hline : (apos.endLine == cpos.line) = true := by rfl) : RE X (.Call (.Attribute o "pop" apos) [] [] cpos) (sBM "list" gPop fo aNil) :=
  re_bm0 PySem.F.plainAttrs_list PySem.F.slot_list_pop PySem.F.type_list_pop mt_pop g_pop ho hbase hline
theorem rm_insert (ho : RE X o fo) (ha : RA X [e, f] fa) (hbase : attributeBase o "insert" X.env (eval o X.env) = eval o X.env := by rfl)
    (hfew : ((backTo cpos (starEach [e, f] X.env)).all (fun x => !x.1) && (backToKw cpos (keywordEach [] X.env)).all (fun x => x.1.isSome) && decide (([e, f] : List Expr).length + ([] : List Keyword).length + (if ([] : List Keyword).isEmpty then 0 else 1) < 30)) = true := by rfl)
    (hline : (apos.endLine == cpos.line) = true := by rfl) (hs : starEach [e, f] X.env = (false, eval e X.env) :: starEach [f] X.env := by rfl) (hpl : (backTo cpos (starEach [f] X.env)).any (·.1) = false := by rfl) : RE X (.Call (.Attribute o "insert" apos) [e, f] [] cpos) (sBM "list" gInsert fo fa) :=
  re_bm PySem.F.plainAttrs_list PySem.F.slot_list_insert PySem.F.type_list_insert mt_insert g_insert ho ha hbase hfew hline hs hpl
end
end G

/-! G25: f-strings -/
namespace G
open PySem PySem.Spec PyProof.Rows L2
/-- {x}: a text or an int -/
def sFmt (f : SE) : SE := fun ρ h => (f ρ h).bind fun d h1 => match d with
  | .str y => if y.length ≤ sizeLine then .ok (.str y) h1 else .no
  | .int i => if i.natAbs.log2 < 1920 then .ok (.str (toString i)) h1 else .no
  | _ => .no
abbrev rS : List Addr → Hp → Str → Str → Prop := fun _ _ a b => a = b
def sJ : List SE → Str → Ev → Hs → R Str
  | [], acc, _, h => .ok acc h
  | f :: fs, acc, ρ, h => (f ρ h).bind fun d h1 => match d with
    | .str y => if (acc ++ y).length ≤ sizeLine then sJ fs (acc ++ y) ρ h1 else .no
    | _ => .no
def sFs (fs : List SE) : SE := fun ρ h => (sJ fs Str.empty ρ h).bind fun y h1 => .ok (.str y) h1
inductive RJ (X : Cx) : List Expr → List SE → Prop
  | nil : RJ X [] []
  | cons {e : Expr} {es : List Expr} {f : SE} {fs : List SE} : RE X e f → RJ X es fs → RJ X (e :: es) (f :: fs)
section
variable {X : Cx} {e : Expr} {es : List Expr} {f : SE} {fs : List SE} {pos : Pos}
theorem re_fmt (he : RE X e f) : RE X (.FormattedValue e (-1) none pos) (sFmt f) :=
  ⟨fun W tk => pe_imp (pe_fmt (he.run W tk)) fun σ H Q ⟨m, ρ, h, rl, en, p⟩ => ⟨m, ρ, h, rl, en, p.bind.mono (fun x H1 ⟨m1, d, h1, e1, r1, ra, p1⟩ => by
    cases d with
    | str y =>
      simp only [RD] at ra
      subst ra
      dsimp only at p1
      split at p1
      · exact .inl ⟨y, rfl, by assumption, p1.ok r1 (by simp only [RD])⟩
      · exact p1.elim
    | int i =>
      simp only [RD] at ra
      subst ra
      dsimp only at p1
      split at p1
      · exact .inr ⟨i, rfl, by assumption, p1.ok r1 (by simp only [RD])⟩
      · exact p1.elim
    | _ => exact p1.elim) fun _ _ _ z => z⟩⟩
theorem RJ.pj (r : RJ X es fs) {W : WX} (tk : Takes X W) : PJ X es (fs.map fun f => LE X.K X.mg W f) := by
  induction r with
  | nil => exact .nil
  | cons h _ ih => exact .cons (h.run W tk) ih
theorem sJ_ok {W : WX} {σ : Sl} {Q : Str → Hp → Prop} {Wx : XK} : ∀ (fs : List SE) (acc : Str) (m : List Addr) (H : Hp) (ρ : Ev) (h : Hs), Rel X.K X.mg m H h → REnv X.K X.mg m H ρ σ → (Wx = fun c dd H' => W c dd σ H') → Po X.K X.mg rS m H (sJ fs acc ρ h) Q Wx → tJs (fs.map fun f => LE X.K X.mg W f) acc σ H Q
  | [], acc, m, H, ρ, h, rl, en, _, p => p.ok rl rfl
  | f :: fs, acc, m, H, ρ, h, rl, en, ew, p => by
    subst ew
    refine ⟨m, ρ, h, rl, en, p.bind.mono (fun x H1 ⟨m1, d, h1, e1, r1, ra, p1⟩ => ?_) fun _ _ _ z => z⟩
    split at p1
    · rename_i y
      simp only [RD] at ra
      subst ra
      split at p1
      · exact ⟨y, rfl, by assumption, sJ_ok fs (acc ++ y) m1 H1 ρ h1 r1 (en.ext e1) rfl p1⟩
      · exact p1.elim
    · exact p1.elim
theorem re_fs {e2 : Expr} (r : RJ X (e :: e2 :: es) fs) : RE X (.JoinedStr (e :: e2 :: es) pos) (sFs fs) :=
  ⟨fun W tk => pe_imp (pe_joined (r.pj tk)) fun σ H Q ⟨m, ρ, h, rl, en, p⟩ => by
    refine sJ_ok fs Str.empty m H ρ h rl en rfl (p.bind.mono (fun y H1 ⟨m1, z, h1, e1, r1, ra, p1⟩ => ?_) fun _ _ _ z => z)
    cases ra
    exact p1.ok r1 (by simp only [RD])⟩
end
end G

/-! G26: xs[::k] -/
namespace G
open PySem PySem.Spec PyProof.Rows L2
/-- the places of xs[::k] -/
def idxS (k : Int) (n : Nat) : List Nat := sliceRange (sliceBounds none none (some k) n).1 (sliceBounds none none (some k) n).2.1 (sliceBounds none none (some k) n).2.2
def tSlS (K : PySem.W.Frag) (to tk : TE) : TE := fun σ H Q => to σ H fun x H1 => tk σ H1 fun y H2 => ∃ a xs k, x = V.ref a ∧ SqL K H2 a xs ∧ y = V.int k ∧ k ≠ 0 ∧ ∀ D, H2 D = none → Q (.ref D) (upd H2 D (.lst (pick (idxS k xs.length) xs)))
section
variable {X : Cx} {o e : Expr} {to tk : TE} {fo fk : SE} {p pos : Pos}
theorem pe_slS (ho : PE X o to) (hk : PE X e tk) : PE X (.Subscript o (.Slice none none (some e) p) pos) (tSlS X.K to tk) := by
  refine ⟨fun pins s σ H Q I h => ?_⟩
  refine Subscript_ (thn (ho.run pins s σ H _ I h) fun u s1 ⟨x, H1, I1, rx, q1⟩ => ?_)
  refine wpAny_Slice ?_
  rw [evalPart_none, evalPart_some]
  refine wpAny_pure (wpAny_pure (thn (hk.run pins s1 σ H1 _ I1 q1) fun v s2 ⟨y, H2, I2, ry, a, xs, k, ex, hs, ey, k0, q2⟩ => ?_))
  subst ex ey
  obtain rfl : u = Value.ref a := rx
  obtain ⟨t, rfl⟩ := (show ∃ t, v = Value.int k t from ry)
  obtain ⟨its, rv, hl, hz⟩ := I2.list hs
  have hl2 := hl.isList.push { cls := .type "slice", data := .fields #[Value.none, Value.none, Value.int k t] }
  show wpAny (model X.prog X.w) X.A (subscriptTail o (.Slice none none (some e) p) (.ref a) (.ref s2.heap.objs.size)) (EP X pins σ Q) X.xe { s2 with heap := s2.heap.push { cls := .type "slice", data := .fields #[Value.none, Value.none, Value.int k t] } }
  refine tail_any (ops := [.ref a, .ref s2.heap.objs.size]) (show Shared.TypeIs { s2 with heap := s2.heap.push { cls := .type "slice", data := .fields #[Value.none, Value.none, Value.int k t] } } (.ref a) "list" from hl2.typeIs) list_getitem_lookup (wpAny_getItem_list_slice (st := some k) hl2 (Heap.IsSliceOf.new ..) .none .none (.int k t) (by simpa using k0) ?_ (by rw [List.size_toArray, ← rv.length]; exact hz)) (by with_unfolding_all rfl)
  have len : its.length = xs.length := rv.length.symm
  have kp : ∀ b w, s2.heap.get? b = some w → ((s2.heap.push { cls := .type "slice", data := .fields #[Value.none, Value.none, Value.int k t] }).push { cls := .type "list", data := .seq (slicePick its.toArray none none (some k)) }).get? b = some w := fun b w e => Heap.get?_push_of_some _ (Heap.get?_push_of_some _ e)
  have sz : (s2.heap.push { cls := .type "slice", data := .fields #[Value.none, Value.none, Value.int k t] }).objs.size = s2.heap.objs.size + 1 := Heap.size_push ..
  have pk : slicePick its.toArray none none (some k) = (pick (idxS k xs.length) its).toArray := by
    unfold slicePick pick idxS
    rw [List.size_toArray, len]
    simp
  have hD : H2 (s2.heap.objs.size + 1) = none := I2.hok.fresh (Nat.le_succ _)
  show EP X pins σ Q (.ref (s2.heap.push _).objs.size) { s2 with heap := _ }
  rw [sz]
  refine ⟨.ref (s2.heap.objs.size + 1), _, I2.laid (t' := s2.toks) kp (Nat.le_succ _) ?_, rfl, q2 _ hD⟩
  refine ⟨?_, pick (idxS k xs.length) its, 0, pick_vals rv, ?_⟩
  · have h1 := slicePick_size_le its.toArray none none (some k)
    rw [pk] at h1
    have h2 := (pick_vals (is := idxS k xs.length) rv).length
    simp at h1
    omega
  · have q : ((s2.heap.push { cls := .type "slice", data := .fields #[Value.none, Value.none, Value.int k t] }).push { cls := .type "list", data := .seq (slicePick its.toArray none none (some k)) }).get? (s2.heap.push { cls := .type "slice", data := .fields #[Value.none, Value.none, Value.int k t] }).objs.size = some { cls := .type "list", data := .seq (slicePick its.toArray none none (some k)) } := Heap.get?_push_size _ rfl
    rw [sz, pk] at q
    rw [pk]
    exact q
def sSlS (fo fk : SE) : SE := fun ρ h => (fo ρ h).bind fun d h1 => (fk ρ h1).bind fun y h2 => match asSqL d h2, y with
  | some ds, .int k => if k ≠ 0 then .ok (.lst (pick (idxS k ds.length) ds)) h2 else .no
  | _, _ => .no
theorem re_slS (ho : RE X o fo) (hk : RE X e fk) : RE X (.Subscript o (.Slice none none (some e) p) pos) (sSlS fo fk) :=
  ⟨fun W tk => pe_imp (pe_slS (ho.run W tk) (hk.run W tk)) fun σ H Q ⟨m, ρ, h, rl, en, po⟩ => ⟨m, ρ, h, rl, en, po.bind.mono (fun x H1 ⟨m1, d, h1, e1, r1, ra, p1⟩ => ⟨m1, ρ, h1, r1, en.ext e1, p1.bind.mono (fun y H2 ⟨m2, d2, h2, e2, r2, rb, p2⟩ => by
    split at p2
    · rename_i ds k hd
      split at p2
      · obtain ⟨a, xs, rfl, f, rs⟩ := asSqL_ok r2 (RD.ext e2 _ _ ra) hd
        simp only [RD] at rb
        subst rb
        refine ⟨a, xs, k, rfl, f, rfl, by assumption, fun D hD => ?_⟩
        rw [← rs.len]
        exact p2.newL r2 hD (pick_rds rs)
      · exact p2.elim
    · exact p2.elim) fun _ _ _ z => z⟩) fun _ _ _ z => z⟩⟩
end
end G

/-! G27: max(xs, default=d) of ints -/
namespace G
open PySem PySem.Spec PyProof.Rows L2
def maxOr (d : Int) : List Int → Int
  | [] => d
  | x :: r => r.foldl max x
def rMaxD (K : PySem.W.Frag) : List V → List V → Hp → VK → Prop := fun vs zs H Q => ∃ (a : Addr) (ns : List Int) (d : Int), vs = [V.ref a] ∧ zs = [V.int d] ∧ SqL K H a (ns.map V.int) ∧ Q (.int (maxOr d ns)) H
theorem dep_ints : ∀ ns : List Int, PyData.depthAll (ns.map PyData.int) = 0
  | [] => rfl
  | n :: ns => by simp only [List.map_cons, PyData.depthAll, PyData.depth, dep_ints ns, Nat.max_self]
section
variable {X : Cx}
theorem cr_maxD (hc : X.calm = true) (hu : X.A.units + 200 < cLine) : CallRK X (.builtin "max") ["default"] (rMaxD X.K) := by
  intro pins s σ H xs zs us ws Q I r rz ⟨a, ns, d, e1, e2, hs, q⟩
  subst e1 e2
  obtain ⟨its, rv, hl, _⟩ := I.list hs
  rw [Vals.ref1 r]
  obtain ⟨u, rfl, t, rfl⟩ := rz.one
  have hi := rv.ints
  refine PySem.W.max_list_default (xs := ns.map PyData.int) (as := []) (I.ok.hd hc) hl.isList (by simpa using hi.reads s.heap) ⟨fun x hx y hy => ?_, fun x hx => ?_⟩ (by rw [dep_ints]; omega) (fun en h' tk k => ?_) fun y ys i v h' tk bs ey hv rd k => ?_
  · obtain ⟨i, _, rfl⟩ := List.mem_map.mp hx
    obtain ⟨j, _, rfl⟩ := List.mem_map.mp hy
    rfl
  · obtain ⟨i, _, rfl⟩ := List.mem_map.mp hx
    exact fun z => by cases z
  · have : ns = [] := by simpa using en
    subst this
    exact ⟨.int d, H, I.kept (t' := tk) k, ⟨t, rfl⟩, q⟩
  · cases ns with
    | nil => cases ey
    | cons n ns =>
      injection ey with e1 e2
      subst e1 e2
      rw [PySem.W.maxD_ints] at rd
      cases rd with
      | int i t2 => exact ⟨.int (ns.foldl max n), H, I.kept (t' := tk) k, ⟨t2, rfl⟩, q⟩
def sMaxD (fa fd : SE) : SE := fun ρ h => (fa ρ h).bind fun d h1 => (fd ρ h1).bind fun z h2 => match asInts d h2, z with
  | some ns, .int i => .ok (.int (maxOr i ns)) h2
  | _, _ => .no
theorem re_maxD {e e2 : Expr} {fa fd : SE} {p kp pos : Pos} (hc : X.calm = true) (hr : Rm X.A) (hg : Gl X "max") (hm : X.mg "max" = none) (ha : RE X e fa) (hd : RE X e2 fd)
    (s1 : starEach [e] X.env = (false, eval e X.env) :: starEach [] X.env := by rfl) (he : backTo pos (starEach [e] X.env) = (false, eval e X.env) :: backTo pos (starEach [] X.env) := by rfl) (hpl : (backTo pos (starEach [e] X.env)).any (·.1) = false := by rfl)
    (hall : (backToKw pos (keywordEach [⟨some "default", e2, kp⟩] X.env)).all (·.1.isSome) = true := by rfl) (hnone : (backToKw pos (keywordEach [⟨some "default", e2, kp⟩] X.env)).any (·.1.isNone) = false := by rfl) (hks : (backToKw pos (keywordEach [⟨some "default", e2, kp⟩] X.env)).filterMap (·.1) = (["default"] : List Str) := by rfl) :
    RE X (.Call (.Name "max" p) [e] [⟨some "default", e2, kp⟩] pos) (sMaxD fa fd) :=
  ⟨fun W tk => pe_imp (pe_callBK (cr_maxD hc hr.un) hg hm (by decide +kernel) (pa_cons (ha.run W tk) pa_nil s1) (pk_cons (hd.run W tk) pk_nil) (he := he) (hpl := hpl) (hall := hall) (hnone := hnone) (hks := hks)) fun σ H Q ⟨m, ρ, h, rl, en, po⟩ => ⟨m, ρ, h, rl, en, po.bind.mono (fun x H1 ⟨m1, d, h1, e1, r1, ra, p1⟩ => ⟨m1, ρ, h1, r1, en.ext e1, p1.bind.mono (fun y H2 ⟨m2, z, h2, e2', r2, rb, p2⟩ => by
    split at p2
    · rename_i ns i hn
      obtain ⟨a, rfl, f⟩ := asInts_ok r2 (RD.ext e2' _ _ ra) hn
      simp only [RD] at rb
      subst rb
      exact ⟨a, ns, i, rfl, rfl, f, p2.ok r2 (by simp only [RD])⟩
    · exact p2.elim) fun _ _ _ z => z⟩) fun _ _ _ z => z⟩⟩
end
section
variable {E : D → Hs → Prop} {Q : D → Hs → Prop} {ρ : Ev} {h : Hs} {fa fd fo fk f : SE}
theorem w_maxD (q : (fa ρ h).xp E fun d h1 => (fd ρ h1).xp E fun z h2 => ∃ ns i, asInts d h2 = some ns ∧ z = .int i ∧ Q (.int (maxOr i ns)) h2) : (sMaxD fa fd ρ h).xp E Q := w_bind (q.mono fun d h1 z => w_bind (z.mono fun z h2 ⟨ns, i, e1, e2, z⟩ => by subst e2; rw [e1]; exact z))
theorem w_slS (q : (fo ρ h).xp E fun d h1 => (fk ρ h1).xp E fun y h2 => ∃ ds k, asSqL d h2 = some ds ∧ y = .int k ∧ k ≠ 0 ∧ Q (.lst (pick (idxS k ds.length) ds)) h2) : (sSlS fo fk ρ h).xp E Q := w_bind (q.mono fun d h1 z => w_bind (z.mono fun y h2 ⟨ds, k, e1, e2, e3, z⟩ => by
  subst e2
  rw [e1]
  dsimp only
  rw [if_pos e3]
  exact z))
theorem w_fmt (q : (f ρ h).xp E fun d h1 => (∃ y : Str, d = .str y ∧ y.length ≤ sizeLine ∧ Q (.str y) h1) ∨ ∃ i : Int, d = .int i ∧ i.natAbs.log2 < 1920 ∧ Q (.str (toString i)) h1) : (sFmt f ρ h).xp E Q := w_bind (q.mono fun d h1 z => by
  rcases z with ⟨y, rfl, e, z⟩ | ⟨i, rfl, e, z⟩
  · dsimp only
    rw [if_pos e]
    exact z
  · dsimp only
    rw [if_pos e]
    exact z)
end
end G

/-! G28: loops over a given list, lists made of a given list. -/
namespace G
open PySem PySem.Spec PyProof.Rows L2
section
variable {E : D → Ev → Hs → Prop} {N B C : Ev → Hs → Prop} {T : D → Hs → Prop} {h : Hs} {ρ : Ev} {f : SS} {s : SI} {t : D → Ev → Option Ev}
/-- over l: I holds of what is behind, of the frame and the heap -/
theorem w_forI {α : Type} (l : List α) (enc : α → D) (I : List α → Ev → Hs → Prop)
    (q : (s ρ h).xp (fun e h => E e ρ h) fun q h1 => (q.2 = rel0 ∧ q.1 = l.map enc) ∧ I [] ρ h1)
    (k : ∀ ds a ts ρ h, l = ds ++ a :: ts → I ds ρ h → ∃ ρ1, t (enc a) ρ = some ρ1 ∧ (f ρ1 h).xp E (I (ds ++ [a])) T N (I (ds ++ [a])))
    (n : ∀ ρ h, I l ρ h → N ρ h) : (sFor s t f ρ h).xp E N T B C := by
  refine w_for (fun r ρ h => ∃ ds ts, l = ds ++ ts ∧ r = ts.map enc ∧ I ds ρ h) (q.mono fun x h1 ⟨⟨e1, e2⟩, i⟩ => ⟨e1, [], l, rfl, e2, i⟩) ?_ ?_
  · rintro d r ρ h ⟨ds, ts, e1, e2, i⟩
    cases ts with
    | nil => cases e2
    | cons a ts =>
      injection e2 with e2 e3
      subst e2 e3
      obtain ⟨ρ1, e4, w⟩ := k ds a ts ρ h e1 i
      have e5 : l = ds ++ [a] ++ ts := by rw [e1]; simp
      exact ⟨ρ1, e4, w.mono (fun ρ h i => ⟨_, ts, e5, rfl, i⟩) (fun _ _ x => x) (fun _ _ x => x) (fun ρ h i => ⟨_, ts, e5, rfl, i⟩)⟩
  · rintro ρ h ⟨ds, ts, e1, e2, i⟩
    cases ts with
    | nil => rw [List.append_nil] at e1; subst e1; exact n _ _ i
    | cons a ts => cases e2
/-- .. the frame and the heap as functions of what is behind -/
theorem w_forP {α ι : Type} (l : List α) (enc : α → D) (env : List α → ι → Ev) (hp : List α → Hs)
    (q : (s ρ h).xp (fun e h => E e ρ h) fun q h1 => (q.2 = rel0 ∧ q.1 = l.map enc) ∧ h1 = hp [] ∧ ∃ j, ρ = env [] j)
    (k : ∀ ds a ts j, l = ds ++ a :: ts → ∃ ρ1, t (enc a) (env ds j) = some ρ1 ∧ (f ρ1 (hp ds)).xp E (fun ρ h => h = hp (ds ++ [a]) ∧ ∃ j, ρ = env (ds ++ [a]) j) T N (fun ρ h => h = hp (ds ++ [a]) ∧ ∃ j, ρ = env (ds ++ [a]) j))
    (n : ∀ j, N (env l j) (hp l)) : (sFor s t f ρ h).xp E N T B C :=
  w_forI l enc (fun ds ρ h => h = hp ds ∧ ∃ j, ρ = env ds j) q (fun ds a ts ρ h e ⟨e1, j, e2⟩ => by subst e1 e2; exact k ds a ts j e) fun ρ h ⟨e1, j, e2⟩ => by subst e1 e2; exact n j
/-- f, then g; M holds between them -/
theorem w_mid {g : SS} (M : Ev → Hs → Prop) (a : (f ρ h).xp E M T B C) (b : ∀ ρ h, M ρ h → (g ρ h).xp E N T B C) : (sSeq f g ρ h).xp E N T B C :=
  w_seq (a.mono b (fun _ _ x => x) (fun _ _ x => x) (fun _ _ x => x))
/-- over range(a, b): I tells how many are behind -/
theorem w_forR {a b : Int} (I : Nat → Ev → Hs → Prop)
    (q : (s ρ h).xp (fun e h => E e ρ h) fun q h1 => (q.2 = rel0 ∧ q.1 = rngD a b) ∧ I 0 ρ h1)
    (k : ∀ (i : Nat) ρ h, (i : Int) < b - a → I i ρ h → ∃ ρ1, t (.int (a + i)) ρ = some ρ1 ∧ (f ρ1 h).xp E (I (i + 1)) T N (I (i + 1)))
    (n : ∀ ρ h, I (b - a).toNat ρ h → N ρ h) : (sFor s t f ρ h).xp E N T B C := by
  refine w_forI (List.range (b - a).toNat) (fun i : Nat => D.int (a + i)) (fun ds ρ h => I ds.length ρ h) (q.mono fun x h1 z => z) ?_ ?_
  · intro ds i ts ρ h e z
    have e1 : (List.range (b - a).toNat)[ds.length]? = some i := by rw [e]; simp
    have l1 : ds.length < (b - a).toNat := by
      have := congrArg List.length e
      simp at this
      omega
    rw [List.getElem?_range l1] at e1
    injection e1 with e1
    subst e1
    rw [List.length_append]
    exact k _ ρ h (by omega) z
  · intro ρ h z
    rw [List.length_range] at z
    exact n ρ h z
end
section
variable {E : D → Hs → Prop} {Q : D → Hs → Prop} {h : Hs} {ρ : Ev} {s : SI} {t : D → Ev → Option Ev} {c : ST} {f : SE} {vs : List Nat}
/-- making one of l changes nothing -/
def Elt (h : Hs) (ρ : Ev) (t : D → Ev → Option Ev) (c : ST) (f : SE) (e y : D) (b : Bool) : Prop := ∀ acc, ∃ ρ1, t e ρ = some ρ1 ∧ (c ρ1 (h ++ [.lst acc])).xp noE fun b' h2 => (b' = b ∧ h2 = h ++ [.lst acc]) ∧ (b = true → (f ρ1 (h ++ [.lst acc])).xp noE fun y' h3 => h3 = h ++ [.lst acc] ∧ y' = y ∧ y.blw h.length = true)
theorem cmpGoM {α : Type} {enc out : α → D} {p : α → Bool} : ∀ (l : List α) (acc : List D), belows h.length acc = true → acc.length + l.length ≤ 10000 → (∀ a ∈ l, Elt h ρ t c f (enc a) (out a) (p a)) →
      (cmpGo t c f rel0 ρ h.length (l.map enc) (h ++ [.lst acc])).xp E fun d h2 => d = .ref h.length ∧ h2 = h ++ [.lst (acc ++ (l.filter p).map out)] ∧ belows h.length (acc ++ (l.filter p).map out) = true
  | [], acc, b, z, k => by
    rw [List.map_nil]
    unfold cmpGo
    rw [if_pos (show rel0 _ from trivial)]
    exact ⟨rfl, by simp, by simpa using b⟩
  | a :: l, acc, b, z, k => by
    obtain ⟨ρ1, e1, w⟩ := k a List.mem_cons_self acc
    obtain ⟨b1, h2, e2, ⟨eb, rfl⟩, w2⟩ := w.get
    simp only [List.length_cons] at z
    rw [List.map_cons]
    unfold cmpGo
    rw [if_pos (show rel0 _ from trivial), e1]
    cases ep : p a with
    | false =>
      rw [ep] at eb
      subst eb
      simp only [e2, R.dry, R.bind]
      rw [List.filter_cons, ep, if_neg (by decide)]
      exact cmpGoM l acc b (by omega) fun x hx => k x (List.mem_cons_of_mem _ hx)
    | true =>
      rw [ep] at eb
      subst eb
      obtain ⟨y, h3, e3, rfl, rfl, by3⟩ := (w2 ep).get
      simp only [e2, R.dry, R.bind, e3]
      have ea : (h ++ [OB.lst acc])[h.length]? = some (.lst acc) := by simp
      have eb : (h ++ [OB.lst acc]).set h.length (.lst (acc ++ [out a])) = h ++ [.lst (acc ++ [out a])] := by simp
      have hz : acc.length < sizeLine := by rw [sizeLine_eq]; omega
      simp only [ea, if_pos hz, eb]
      refine (cmpGoM l (acc ++ [out a]) (belows_app b (by simp [belows, by3])) (by simp; omega) fun x hx => k x (List.mem_cons_of_mem _ hx)).mono fun d h2 ⟨e4, e5, e6⟩ => ?_
      rw [List.append_assoc] at e5 e6
      rw [List.filter_cons, ep, if_pos rfl, List.map_cons]
      exact ⟨e4, e5, e6⟩
/-- [out a for a in l if p a], kept -/
theorem w_lrK {α : Type} (enc out : α → D) (p : α → Bool)
    (q : (s ρ h).xp E fun q h1 => ∃ l : List α, (q.2 = rel0 ∧ q.1 = l.map enc) ∧ l.length ≤ 10000 ∧ (∀ a ∈ l, Elt h1 (wipeE ρ vs) t c f (enc a) (out a) (p a)) ∧ Q (.ref h1.length) (h1 ++ [.lst ((l.filter p).map out)])) : (sLr s t c f vs ρ h).xp E Q := by
  refine w_bind (q.mono fun q h1 ⟨l, ⟨e1, e2⟩, z, k, fin⟩ => ?_)
  obtain ⟨ds, ok⟩ := q
  subst e1 e2
  refine (cmpGoM l [] rfl (by simpa using z) k).mono fun d h2 ⟨a1, a2, a3⟩ => ?_
  subst a1 a2
  simpa using fin
/-- .. frozen; what is gone over may change old objects -/
theorem w_lrMF {α : Type} (enc out : α → D) (p : α → Bool)
    (q : (s ρ h).xp noE fun q h1 => ∃ l : List α, (q.2 = rel0 ∧ q.1 = l.map enc) ∧ l.length ≤ 10000 ∧ (h1.length = h.length ∧ OldOk h h1) ∧ (∀ a ∈ l, Elt h1 (wipeE ρ vs) t c f (enc a) (out a) (p a)) ∧ Q (.lst ((l.filter p).map out)) h1) : (sTrim (sLr s t c f vs) ρ h).xp E Q := by
  refine w_trim (w_bind (q.mono fun q h1 ⟨l, ⟨e1, e2⟩, z, ⟨hl, old⟩, k, fin⟩ => ?_))
  obtain ⟨ds, ok⟩ := q
  subst e1 e2
  refine (cmpGoM l [] rfl (by simpa using z) k).mono fun d h2 ⟨a1, a2, a3⟩ => ?_
  subst a1 a2
  rw [List.nil_append] at a3 ⊢
  refine ⟨.lst ((l.filter p).map out), ?_, ?_, by rw [← hl]; simpa using fin⟩
  · have e : (h1 ++ [OB.lst ((l.filter p).map out)])[h1.length]? = some (.lst ((l.filter p).map out)) := by simp
    simp only [frz, ← hl, if_neg (Nat.lt_irrefl _), e]
    rw [if_pos a3]
  · intro i hi
    have := old i hi
    rwa [List.getElem?_append_left (by omega)]
theorem w_lrM {α : Type} (enc out : α → D)
    (q : (s ρ h).xp noE fun q h1 => ∃ l : List α, (q.2 = rel0 ∧ q.1 = l.map enc) ∧ l.length ≤ 10000 ∧ (h1.length = h.length ∧ OldOk h h1) ∧ (∀ a ∈ l, Elt h1 (wipeE ρ vs) t c f (enc a) (out a) true) ∧ Q (.lst (l.map out)) h1) : (sTrim (sLr s t c f vs) ρ h).xp E Q := by
  refine w_lrMF enc out (fun _ => true) (q.mono fun x h1 ⟨l, z⟩ => ⟨l, ?_⟩)
  have : l.filter (fun _ => true) = l := List.filter_eq_self.mpr fun _ _ => rfl
  rw [this]
  exact z
theorem w_lrKM {α : Type} (enc out : α → D)
    (q : (s ρ h).xp E fun q h1 => ∃ l : List α, (q.2 = rel0 ∧ q.1 = l.map enc) ∧ l.length ≤ 10000 ∧ (∀ a ∈ l, Elt h1 (wipeE ρ vs) t c f (enc a) (out a) true) ∧ Q (.ref h1.length) (h1 ++ [.lst (l.map out)])) : (sLr s t c f vs ρ h).xp E Q := by
  refine w_lrK enc out (fun _ => true) (q.mono fun x h1 ⟨l, z⟩ => ⟨l, ?_⟩)
  have : l.filter (fun _ => true) = l := List.filter_eq_self.mpr fun _ _ => rfl
  rw [this]
  exact z
theorem elt {e y : D} {b : Bool} (k : ∀ acc, ∃ ρ1, t e ρ = some ρ1 ∧ (c ρ1 (h ++ [.lst acc])).xp noE fun b' h2 => (b' = b ∧ h2 = h ++ [.lst acc]) ∧ (b = true → (f ρ1 (h ++ [.lst acc])).xp noE fun y' h3 => h3 = h ++ [.lst acc] ∧ y' = y ∧ y.blw h.length = true)) : Elt h ρ t c f e y b := k
/-- without a test -/
theorem eltT {e y : D} (k : ∀ acc, ∃ ρ1, t e ρ = some ρ1 ∧ (f ρ1 (h ++ [.lst acc])).xp noE fun y' h3 => h3 = h ++ [.lst acc] ∧ y' = y ∧ y.blw h.length = true) : Elt h ρ t sYes f e y true := fun acc => by
  obtain ⟨ρ1, e1, w⟩ := k acc
  exact ⟨ρ1, e1, ⟨rfl, rfl⟩, fun _ => w⟩
end
theorem p_pop {k : Nat} {acc : List D} {x : D} {H : Hs} {E : D → Hs → Prop} {Q : D → Hs → Prop} (o : H[k]? = some (.lst (acc ++ [x]))) (q : Q x (H.set k (.lst acc))) : (gPop (.ref k) [] H).xp E Q := by
  have e : mutL (.ref k) H = some (k, acc ++ [x]) := by unfold mutL; simp only [o]
  unfold gPop
  simp only [e]
  rw [show (acc ++ [x])[(acc ++ [x]).length - 1]? = some x by simp]
  dsimp only
  rw [List.dropLast_concat]
  exact q
theorem p_insert {k : Nat} {acc : List D} {i : Int} {x : D} {H : Hs} {E : D → Hs → Prop} {Q : D → Hs → Prop} (o : H[k]? = some (.lst acc)) (l : acc.length ≤ 1000) (i0 : 0 ≤ i) (i1 : i ≤ 1000) (q : Q .non (H.set k (.lst (acc.take i.toNat ++ [x] ++ acc.drop i.toNat)))) : (gInsert (.ref k) [.int i, x] H).xp E Q := by
  have e : mutL (.ref k) H = some (k, acc) := by unfold mutL; simp only [o]
  unfold gInsert
  simp only [e]
  rw [if_pos ⟨by rw [sizeLine_eq]; omega, i0, by omega⟩]
  exact q
theorem p_listL {ds : List D} {h : Hs} {E : D → Hs → Prop} {Q : D → Hs → Prop} (q : Q (.ref h.length) (h ++ [.lst ds])) : (gListOf [.lst ds] h).xp E Q := q
theorem p_listT {ds : List D} {h : Hs} {E : D → Hs → Prop} {Q : D → Hs → Prop} (q : Q (.ref h.length) (h ++ [.lst ds])) : (gListOf [.tup ds] h).xp E Q := q
section
variable {E : D → Hs → Prop} {Q : D → Hs → Prop} {h : Hs} {a b c d e f : D} {r : List D}
theorem p_ixT0 (q : Q a h) : (gIx (.tup (a :: r)) (.int 0) h).xp E Q := p_ixT (k := 0) (by rfl) q
theorem p_ixT1 (q : Q b h) : (gIx (.tup (a :: b :: r)) (.int 1) h).xp E Q := p_ixT (k := 1) (by rfl) q
theorem p_ixT2 (q : Q c h) : (gIx (.tup (a :: b :: c :: r)) (.int 2) h).xp E Q := p_ixT (k := 2) (by rfl) q
theorem p_ixT3 (q : Q d h) : (gIx (.tup (a :: b :: c :: d :: r)) (.int 3) h).xp E Q := p_ixT (k := 3) (by rfl) q
theorem p_ixT4 (q : Q e h) : (gIx (.tup (a :: b :: c :: d :: e :: r)) (.int 4) h).xp E Q := p_ixT (k := 4) (by rfl) q
theorem p_ixT5 (q : Q f h) : (gIx (.tup (a :: b :: c :: d :: e :: f :: r)) (.int 5) h).xp E Q := p_ixT (k := 5) (by rfl) q
theorem p_ixL0 (q : Q a h) : (gIx (.lst (a :: r)) (.int 0) h).xp E Q := p_ixL (k := 0) (by rfl) q
theorem p_ixL1 (q : Q b h) : (gIx (.lst (a :: b :: r)) (.int 1) h).xp E Q := p_ixL (k := 1) (by rfl) q
theorem p_ixL2 (q : Q c h) : (gIx (.lst (a :: b :: c :: r)) (.int 2) h).xp E Q := p_ixL (k := 2) (by rfl) q
theorem p_ixBl {b : Bool} {x y : D} (q : Q (if b then y else x) h) : (gIx (.lst [x, y]) (.int (if b then 1 else 0)) h).xp E Q := by
  cases b with
  | false => exact p_ixL (k := 0) (by rfl) q
  | true => exact p_ixL (k := 1) (by rfl) q
end
theorem and_dec {P A B : Prop} [Decidable P] (p : P → A) (n : ¬ P → B) : (decide P = true → A) ∧ (decide P = false → B) := ⟨fun c => p (of_decide_eq_true c), fun c => n (of_decide_eq_false c)⟩
theorem and_ndec {P A B : Prop} [Decidable P] (p : ¬ P → A) (n : P → B) : ((!decide P) = true → A) ∧ ((!decide P) = false → B) := ⟨fun c => p (by simpa using c), fun c => n (by simpa using c)⟩
theorem and_rt {c : Bool} {A B : Prop} (e : c = true) (q : A) : (c = true → A) ∧ (c = false → B) := ⟨fun _ => q, fun z => by rw [e] at z; cases z⟩
theorem and_rf {c : Bool} {A B : Prop} (e : c = false) (q : B) : (c = true → A) ∧ (c = false → B) := ⟨fun z => (by rw [e] at z; cases z), fun _ => q⟩
theorem and_bool {c : Bool} {A B : Prop} (p : c = true → A) (n : c = false → B) : (c = true → A) ∧ (c = false → B) := ⟨p, n⟩
theorem and_dec2 {P A B : Prop} [Decidable P] (p : P → A) (n : ¬ P → B) : (decide P = false → B) ∧ (decide P = true → A) := ⟨fun c => n (of_decide_eq_false c), fun c => p (of_decide_eq_true c)⟩
section
variable {ρ : Ev} {h : Hs} {f : SE} {fs : List SE} {acc : Str}
theorem w_fs {E : D → Hs → Prop} {Q : D → Hs → Prop} (q : (sJ fs Str.empty ρ h).xp E fun y h1 => Q (.str y) h1) : (sFs fs ρ h).xp E Q := w_bind q
theorem w_j0 {E : D → Hs → Prop} {Q : Str → Hs → Prop} (q : Q acc h) : (sJ [] acc ρ h).xp E Q := q
theorem w_jc {E : D → Hs → Prop} {Q : Str → Hs → Prop} (q : (f ρ h).xp E fun d h1 => ∃ y, d = .str y ∧ (acc ++ y).length ≤ sizeLine ∧ (sJ fs (acc ++ y) ρ h1).xp E Q) : (sJ (f :: fs) acc ρ h).xp E Q := w_bind (q.mono fun d h1 ⟨y, e, l, z⟩ => by
  subst e
  dsimp only
  rw [if_pos l]
  exact z)
end
end G

/-! G29: repr of anything: data, and instances of classes with a __repr__ of their own, at any depth. -/
namespace G
open PySem PySem.Spec PyProof.Rows L2
open Sem (wp)
open Builtin
open Builtin.List
mutual
/-- how deep: own instances are leaves -/
def dep : D → Nat
  | .tup ds => deps ds + 1
  | .lst ds => deps ds + 1
  | .scr ds => deps ds + 1
  | _ => 0
def deps : List D → Nat
  | [] => 0
  | d :: r => max (dep d) (deps r)
end
mutual
/-- no numbers, no exceptions, no dicts with something in -/
def pur : D → Bool
  | .tup ds => purs ds
  | .lst ds => purs ds
  | .scr ds => purs ds
  | .dct kvs => kvs.isEmpty
  | .ref _ => false
  | .exn _ _ _ => false
  | _ => true
def purs : List D → Bool
  | [] => true
  | d :: r => pur d && purs r
end
open Classical in
/-- what the class's own __repr__ tells -/
noncomputable def ownT (tb : Tbl) (h : Hs) (c : Str) (fs : List (Str × D)) : Option Str := match tb.lookup c with
  | some f => match f [.ins c fs] h with
    | .ok (.str t) h' => if h' = h then some t else none
    | _ => none
  | none => none
mutual
noncomputable def shD (tb : Tbl) (h : Hs) : D → Option Str
  | .non => some "None"
  | .bl b => some (if b then "True" else "False")
  | .int i => if i.natAbs.log2 < 1920 then some (toString i) else none
  | .str x => if (reprText x).length ≤ sizeLine then some (reprText x) else none
  | .tup ds => (shDs tb h ds).map tupleText
  | .lst ds => (shDs tb h ds).map listText
  | .scr ds => (shDs tb h ds).map listText
  | .dct kvs => if kvs.isEmpty then some "{}" else none
  | .ins c fs => ownT tb h c fs
  | .ref _ => none
  | .exn _ _ _ => none
noncomputable def shDs (tb : Tbl) (h : Hs) : List D → Option (List Str)
  | [] => some []
  | d :: r => match shD tb h d, shDs tb h r with
    | some t, some ts => some (t :: ts)
    | _, _ => none
end
mutual
theorem pur_of {tb : Tbl} {h : Hs} : ∀ (d : D) (t : Str), shD tb h d = some t → pur d = true
  | .non, t, e => by simp only [pur]
  | .bl b, t, e => by simp only [pur]
  | .int b, t, e => by simp only [pur]
  | .str b, t, e => by simp only [pur]
  | .ins c fs, t, e => by simp only [pur]
  | .ref n, t, e => by simp only [shD] at e; cases e
  | .exn x c fs, t, e => by simp only [shD] at e; cases e
  | .dct kvs, t, e => by
    simp only [shD] at e
    simp only [pur]
    split at e
    · assumption
    · cases e
  | .tup ds, t, e => by
    simp only [shD] at e
    obtain ⟨ts, e, _⟩ := Option.map_eq_some_iff.mp e
    simp only [pur]
    exact purs_of ds ts e
  | .lst ds, t, e => by
    simp only [shD] at e
    obtain ⟨ts, e, _⟩ := Option.map_eq_some_iff.mp e
    simp only [pur]
    exact purs_of ds ts e
  | .scr ds, t, e => by
    simp only [shD] at e
    obtain ⟨ts, e, _⟩ := Option.map_eq_some_iff.mp e
    simp only [pur]
    exact purs_of ds ts e
theorem purs_of {tb : Tbl} {h : Hs} : ∀ (ds : List D) (ts : List Str), shDs tb h ds = some ts → purs ds = true
  | [], ts, e => by simp only [purs]
  | d :: r, ts, e => by
    simp only [shDs] at e
    split at e
    · rename_i t ts' e1 e2
      simp only [purs, pur_of d t e1, purs_of r ts' e2, Bool.and_self]
    · cases e
end
/-! ### one thing is as deep as it is -/
section
variable {X : Cx} {pins : List (Addr × Obj)} {σ : Sl} {H : Hp} {s : Shared} {m : List Addr}
theorem FzT.obj (I : Inv X pins σ H s) {a : Addr} {xs : List V} (f : FzT X.K m H a xs) : ∃ (o : Obj) (its : List Value) (n : Nat), s.heap.get? a = some o ∧ o.cls = .type "tuple" ∧ o.data = .seq its.toArray n ∧ Vals xs its := by
  obtain ⟨its, r, ⟨o, e, c, n, d⟩, _⟩ := I.tuple f.sq
  exact ⟨o, its, n, e, c, d, r⟩
theorem FzL.obj (I : Inv X pins σ H s) {a : Addr} {xs : List V} (f : FzL X.K m H a xs) : ∃ (o : Obj) (its : List Value) (n : Nat), s.heap.get? a = some o ∧ o.cls = .type "list" ∧ o.data = .seq its.toArray n ∧ Vals xs its := by
  obtain ⟨its, r, ⟨o, n, e, c, _, d⟩, _⟩ := I.list f.sq
  exact ⟨o, its, n, e, c, d, r⟩
/-- a sequence of the given class stands at a -/
def SeqB (X : Cx) (H : Hp) (m : List Addr) (s : Shared) (T : String) (a : Addr) (ds : List D) : Prop := ∃ (o : Obj) (its : List Value) (n : Nat) (xs : List V), s.heap.get? a = some o ∧ o.cls = .type T ∧ o.data = .seq its.toArray n ∧ Vals xs its ∧ RDs X.K X.mg m H ds xs
theorem seq_tup (I : Inv X pins σ H s) {a : Addr} {ds : List D} (r : RD X.K X.mg m H (.tup ds) (.ref a)) : SeqB X H m s "tuple" a ds := by
  simp only [RD] at r
  obtain ⟨a', xs, e, f, r⟩ := r
  cases e
  obtain ⟨o, its, n, h1, h2, h3, h4⟩ := f.obj I
  exact ⟨o, its, n, xs, h1, h2, h3, h4, r⟩
theorem seq_scr (I : Inv X pins σ H s) {a : Addr} {ds : List D} (r : RD X.K X.mg m H (.scr ds) (.ref a)) : SeqB X H m s "list" a ds := by
  simp only [RD] at r
  obtain ⟨a', xs, e, f, r⟩ := r
  cases e
  obtain ⟨o, its, n, h1, h2, h3, h4⟩ := f.obj I
  exact ⟨o, its, n, xs, h1, h2, h3, h4, r⟩
theorem seq_lst (I : Inv X pins σ H s) {a : Addr} {ds : List D} (r : RD X.K X.mg m H (.lst ds) (.ref a)) : SeqB X H m s "list" a ds := by
  simp only [RD] at r
  obtain ⟨a', xs, e, f, g, r⟩ := r
  cases e
  obtain ⟨o, its, n, h1, h2, h3, h4⟩ := FzL.obj (m := m) I (.inl ⟨.inl f, g⟩)
  exact ⟨o, its, n, xs, h1, h2, h3, h4, r⟩
/-- the object of a class that is no display's -/
theorem dct_cls (I : Inv X pins σ H s) {a : Addr} {kvs : List (Key × D)} (r : RD X.K X.mg m H (.dct kvs) (.ref a)) : ∃ o, s.heap.get? a = some o ∧ o.cls = .type "dict" := by
  simp only [RD] at r
  obtain ⟨a', ys, e, f, _⟩ := r
  cases e
  obtain ⟨_, _, vs, _, o, es, ep, h1, h2, _⟩ := I.hok _ _ f
  exact ⟨o, h1, h2.1⟩
theorem ins_cls (I : Inv X pins σ H s) {a : Addr} {c : Str} {fs : List (Str × D)} (r : RD X.K X.mg m H (.ins c fs) (.ref a)) : ∃ o C, s.heap.get? a = some o ∧ o.cls = .ref C := by
  simp only [RD] at r
  obtain ⟨a', C, dx, ys, e, g, f, _⟩ := r
  cases e
  obtain ⟨_, _, _, h1, _⟩ := I.hok _ _ f
  exact ⟨_, C, h1, rfl⟩
/-- what a thing at an address may be -/
theorem kindA {d : D} {v : V} {a : Addr} (p : pur d = true) (r : RD X.K X.mg m H d v) (e : v = .ref a) : (∃ ds, d = .tup ds) ∨ (∃ ds, d = .lst ds) ∨ (∃ ds, d = .scr ds) ∨ (∃ ds, d = .dct ds) ∨ ∃ c fs, d = .ins c fs := by
  subst e
  cases d with
  | non => simp only [RD] at r; cases r
  | bl b => simp only [RD] at r; cases r
  | int b => simp only [RD] at r; cases r
  | str b => simp only [RD] at r; cases r
  | tup ds => exact .inl ⟨ds, rfl⟩
  | lst ds => exact .inr (.inl ⟨ds, rfl⟩)
  | scr ds => exact .inr (.inr (.inl ⟨ds, rfl⟩))
  | dct ds => exact .inr (.inr (.inr (.inl ⟨ds, rfl⟩)))
  | ins c fs => exact .inr (.inr (.inr (.inr ⟨c, fs, rfl⟩)))
  | ref n => simp only [pur] at p; cases p
  | exn x c fs => simp only [pur] at p; cases p
theorem SeqB.inj {T T' : String} {a : Addr} {ds ds' : List D} (h : SeqB X H m s T a ds) (h' : SeqB X H m s T' a ds') : T = T' ∧ ∃ xs, RDs X.K X.mg m H ds xs ∧ RDs X.K X.mg m H ds' xs := by
  obtain ⟨o, its, n, xs, h1, h2, h3, h4, r⟩ := h
  obtain ⟨o', its', n', xs', h1', h2', h3', h4', r'⟩ := h'
  rw [h1] at h1'; cases h1'
  rw [h2] at h2'
  rw [h3] at h3'
  injection h2' with e1
  injection h3' with e2 _
  have : its = its' := by simpa using congrArg Array.toList e2
  subst this
  exact ⟨e1, xs, r, by rw [h4.inj h4']; exact r'⟩
theorem SeqB.not_dct (I : Inv X pins σ H s) {T : String} {a : Addr} {ds : List D} {kvs : List (Key × D)} (h : SeqB X H m s T a ds) (hT : T = "tuple" ∨ T = "list") (r : RD X.K X.mg m H (.dct kvs) (.ref a)) : False := by
  obtain ⟨o, e1, c1⟩ := dct_cls I r
  obtain ⟨o', _, _, _, e2, c2, _⟩ := h
  rw [e1] at e2; cases e2
  rw [c1] at c2
  injection c2 with c2
  rcases hT with rfl | rfl <;> exact absurd c2 (by decide)
theorem SeqB.not_ins (I : Inv X pins σ H s) {T : String} {a : Addr} {ds : List D} {c : Str} {fs : List (Str × D)} (h : SeqB X H m s T a ds) (r : RD X.K X.mg m H (.ins c fs) (.ref a)) : False := by
  obtain ⟨o, C, e1, c1⟩ := ins_cls I r
  obtain ⟨o', _, _, _, e2, c2, _⟩ := h
  rw [e1] at e2; cases e2
  rw [c1] at c2
  cases c2
theorem seq_of (I : Inv X pins σ H s) {a : Addr} {d : D} (p : pur d = true) (r : RD X.K X.mg m H d (.ref a)) : (∃ T ds, (T = "tuple" ∨ T = "list") ∧ SeqB X H m s T a ds ∧ dep d = deps ds + 1 ∧ purs ds = true) ∨ (dep d = 0 ∧ ((∃ kvs, d = .dct kvs) ∨ ∃ c fs, d = .ins c fs)) := by
  rcases kindA p r rfl with ⟨ds, rfl⟩ | ⟨ds, rfl⟩ | ⟨ds, rfl⟩ | ⟨ds, rfl⟩ | ⟨c, fs, rfl⟩
  · exact .inl ⟨"tuple", ds, .inl rfl, seq_tup I r, by simp only [dep], by simpa only [pur] using p⟩
  · exact .inl ⟨"list", ds, .inr rfl, seq_lst I r, by simp only [dep], by simpa only [pur] using p⟩
  · exact .inl ⟨"list", ds, .inr rfl, seq_scr I r, by simp only [dep], by simpa only [pur] using p⟩
  · exact .inr ⟨by simp only [dep], .inl ⟨ds, rfl⟩⟩
  · exact .inr ⟨by simp only [dep], .inr ⟨c, fs, rfl⟩⟩
theorem rd_dep (I : Inv X pins σ H s) : ∀ (n : Nat) (d d' : D) (v : V), dep d ≤ n → pur d = true → pur d' = true → RD X.K X.mg m H d v → RD X.K X.mg m H d' v → dep d = dep d' := by
  intro n
  induction n with
  | zero =>
    intro d d' v hn p p' r r'
    have h0 : dep d = 0 := Nat.le_zero.mp hn
    cases v with
    | ref a =>
      rcases seq_of I p r with ⟨T, ds, _, _, e, _⟩ | ⟨_, hk⟩
      · omega
      · rcases seq_of I p' r' with ⟨T', ds', hT', b', _, _⟩ | ⟨h0', _⟩
        · rcases hk with ⟨kvs, rfl⟩ | ⟨c, fs, rfl⟩
          · exact (b'.not_dct I hT' r).elim
          · exact (b'.not_ins I r).elim
        · omega
    | _ => cases d' <;> first
      | (simp only [dep]; exact h0)
      | (simp only [RD] at r'; obtain ⟨_, _, e, _⟩ := r'; cases e)
      | (simp only [pur] at p'; cases p')
  | succ n ih =>
    have lists : ∀ (ds ds' : List D) (xs : List V), deps ds ≤ n → purs ds = true → purs ds' = true → RDs X.K X.mg m H ds xs → RDs X.K X.mg m H ds' xs → deps ds = deps ds' := by
      intro ds
      induction ds with
      | nil =>
        intro ds' xs hn p p' r r'
        simp only [RDs] at r
        subst r
        cases ds' with
        | nil => rfl
        | cons d' r2 => simp only [RDs] at r'; obtain ⟨_, _, e, _⟩ := r'; cases e
      | cons d ds ihd =>
        intro ds' xs hn p p' r r'
        simp only [RDs] at r
        obtain ⟨v, vr, rfl, r1, r2⟩ := r
        cases ds' with
        | nil => simp only [RDs] at r'; cases r'
        | cons d' ds' =>
          simp only [RDs] at r'
          obtain ⟨v', vr', e, r1', r2'⟩ := r'
          cases e
          simp only [purs, Bool.and_eq_true] at p p'
          simp only [deps] at hn ⊢
          rw [ih d d' v (by omega) p.1 p'.1 r1 r1', ihd ds' vr (by omega) p.2 p'.2 r2 r2']
    intro d d' v hn p p' r r'
    cases v with
    | ref a =>
      rcases seq_of I p r with ⟨T, ds, hT, b, e, pu⟩ | ⟨h0, hk⟩
      · rcases seq_of I p' r' with ⟨T', ds', hT', b', e', pu'⟩ | ⟨h0', hk'⟩
        · obtain ⟨_, xs, q, q'⟩ := b.inj b'
          rw [e, e', lists ds ds' xs (by omega) pu pu' q q']
        · rcases hk' with ⟨kvs, rfl⟩ | ⟨c, fs, rfl⟩
          · exact (b.not_dct I hT r').elim
          · exact (b.not_ins I r').elim
      · rcases seq_of I p' r' with ⟨T', ds', hT', b', e', pu'⟩ | ⟨h0', hk'⟩
        · rcases hk with ⟨kvs, rfl⟩ | ⟨c, fs, rfl⟩
          · exact (b'.not_dct I hT' r).elim
          · exact (b'.not_ins I r).elim
        · omega
    | _ =>
      have h0 : dep d = 0 := by
        cases d <;> first
          | (simp only [dep]; done)
          | (simp only [RD] at r; obtain ⟨_, _, e, _⟩ := r; cases e)
          | (simp only [pur] at p; cases p)
      have h0' : dep d' = 0 := by
        cases d' <;> first
          | (simp only [dep]; done)
          | (simp only [RD] at r'; obtain ⟨_, _, e, _⟩ := r'; cases e)
          | (simp only [pur] at p'; cases p')
      omega
end
/-! ### showing -/
/-- who is being shown lies above -/
def GOk (X : Cx) (m : List Addr) (H : Hp) (N : Nat) (g : List Code) : Prop := ∃ Bs : List Addr, (∀ b, b ∉ Bs → Clear g b) ∧ ∀ b ∈ Bs, ∃ d0, pur d0 = true ∧ RD X.K X.mg m H d0 (.ref b) ∧ N < dep d0
theorem GOk.nil {X : Cx} {m : List Addr} {H : Hp} {N : Nat} : GOk X m H N [] := ⟨[], fun b _ => Clear.nil b, fun b hb => by cases hb⟩
theorem GOk.ext {X : Cx} {m m' : List Addr} {H H' : Hp} {N : Nat} {g : List Code} (k : GOk X m H N g) (e : Ext m H m' H') : GOk X m' H' N g := by
  obtain ⟨Bs, h1, h2⟩ := k
  exact ⟨Bs, h1, fun b hb => by
    obtain ⟨d0, p, r, l⟩ := h2 b hb
    exact ⟨d0, p, RD.ext e _ _ r, l⟩⟩
theorem GOk.mono {X : Cx} {m : List Addr} {H : Hp} {N N' : Nat} {g : List Code} (k : GOk X m H N g) (l : N' ≤ N) : GOk X m H N' g := by
  obtain ⟨Bs, h1, h2⟩ := k
  exact ⟨Bs, h1, fun b hb => by
    obtain ⟨d0, p, r, l0⟩ := h2 b hb
    exact ⟨d0, p, r, by omega⟩⟩
theorem GOk.clear {X : Cx} {pins : List (Addr × Obj)} {σ : Sl} {s : Shared} {m : List Addr} {H : Hp} {N : Nat} {g : List Code} (I : Inv X pins σ H s) (k : GOk X m H N g) {d : D} {a : Addr} (p : pur d = true) (r : RD X.K X.mg m H d (.ref a)) (l : dep d ≤ N) : Clear g a := by
  obtain ⟨Bs, h1, h2⟩ := k
  refine h1 a fun ha => ?_
  obtain ⟨d0, p0, r0, l0⟩ := h2 a ha
  have := rd_dep I (dep d0) d0 d _ (Nat.le_refl _) p0 p r0 r
  omega
theorem GOk.cons {X : Cx} {m : List Addr} {H : Hp} {N : Nat} {g : List Code} {d : D} {a : Addr} {id : String} {rest : List Value} {kw : List (Str × Value)} (k : GOk X m H (dep d) g) (p : pur d = true) (r : RD X.K X.mg m H d (.ref a)) (l : N < dep d) : GOk X m H N (.builtin id ⟨.ref a :: rest, kw⟩ :: g) := by
  obtain ⟨Bs, h1, h2⟩ := k
  refine ⟨a :: Bs, fun b hb => ?_, fun b hb => ?_⟩
  · simp only [List.mem_cons, not_or] at hb
    exact (h1 b hb.2).cons fun e => hb.1 e.symm
  · rcases List.mem_cons.mp hb with rfl | hb
    · exact ⟨d, p, r, l⟩
    · obtain ⟨d0, p0, r0, l0⟩ := h2 b hb
      exact ⟨d0, p0, r0, by omega⟩
/-- d is shown as t, wherever and whenever -/
def ShR (RM : Nat → Around → Prop) (X : Cx) (h : Hs) (j N : Nat) (d : D) (t : Str) : Prop := ∀ (base : Nat), base + t.length ≤ sizeLine → ∀ (A : Around) (g : List Code) (pins : List (Addr × Obj)) (σ : Sl) (s : Shared) (u : Value) (v : V) (m : List Addr) (H : Hp) (Q : Str → Shared → Prop),
  A.guards = some g → GOk X m H (dep d) g → RM (j + N) A → A.frames = X.A.frames → Inv X pins σ H s → Rel X.K X.mg m H h → RD X.K X.mg m H d v → RelV v u →
  (∀ s' m' H', Inv X pins σ H' s' → Ext m H m' H' → Rel X.K X.mg m' H' h → Q t s') → wpAny (model X.prog X.w) A (pyReprUnder base u) Q X.xe s
inductive ShAll (RM : Nat → Around → Prop) (X : Cx) (h : Hs) (j N : Nat) : List D → List Str → Prop
  | nil : ShAll RM X h j N [] []
  | cons {d : D} {t : Str} {ds : List D} {ts : List Str} : ShR RM X h j N d t → ShAll RM X h j N ds ts → ShAll RM X h j N (d :: ds) (t :: ts)
theorem ShAll.len {RM : Nat → Around → Prop} {X : Cx} {h : Hs} {j N : Nat} : ∀ {ds : List D} {ts : List Str}, ShAll RM X h j N ds ts → ts.length = ds.length
  | _, _, .nil => rfl
  | _, _, .cons _ r => by simp [r.len]
theorem ShAll.get {RM : Nat → Around → Prop} {X : Cx} {h : Hs} {j N : Nat} : ∀ {ds : List D} {ts : List Str}, ShAll RM X h j N ds ts → ∀ {i : Nat} {d : D}, ds[i]? = some d → ∃ t, ts[i]? = some t ∧ ShR RM X h j N d t
  | _, _, .nil, i, d, e => by simp at e
  | _, _, .cons hx _, 0, d, e => by simp at e; subst e; exact ⟨_, rfl, hx⟩
  | _, _, .cons _ r, i + 1, d, e => by
    obtain ⟨t, e1, e2⟩ := r.get (i := i) (d := d) (by simpa using e)
    exact ⟨t, by simpa using e1, e2⟩
/-- a leaf -/
theorem ShR.of_is {RM : Nat → Around → Prop} {X : Cx} {h : Hs} {j N : Nat} {d : D} {t : Str} (k : ∀ (v : V) (u : Value) (m : List Addr) (H : Hp), RD X.K X.mg m H d v → RelV v u → ReprIs X.prog X.w u t) : ShR RM X h j N d t :=
  fun base hb A g pins σ s u v m H Q _ _ _ _ I rl r rv hq => k v u m H r rv base hb A _ s Q fun tk => hq _ m H (I.tok tk) (Ext.refl m H) rl
/-- a way to ask for room -/
structure Rms (RM : Nat → Around → Prop) : Prop where
  un : ∀ {k : Nat} {A : Around}, RM k A → A.units + 16 * k + 200 < cLine
  mono : ∀ {j k : Nat} {A : Around}, RM k A → j ≤ k → RM j A
  in1 : ∀ {k : Nat} {A : Around}, RM (k + 1) A → RM k A.in1
  gd : ∀ {k : Nat} {A : Around} {id : String} {rest : List Value}, RM (k + 1) A → id = "tuple.__repr__" ∨ id = "tuple.__repr__.under" ∨ id = "list.__repr__.loop" → RM k (A.under (.builtin id ⟨rest, []⟩))
theorem room_gd0 {k : Nat} {A : Around} {id : String} {rest : List Value} (r : RoomB False (k + 1) A) (hid : id = "tuple.__repr__" ∨ id = "tuple.__repr__.under" ∨ id = "list.__repr__.loop") : RoomB False k (A.under (.builtin id ⟨rest, []⟩)) := by
  have h1 := r.room.hd
  have h2 := r.room.dp
  have h3 := r.room.un
  refine ⟨⟨?_, ?_, ?_⟩, fun z => z.elim⟩
  · rcases hid with rfl | rfl | rfl <;> first | exact h1 | simp [Around.under, h1]
  · have e : (A.under (.builtin id ⟨rest, []⟩)).depth ≤ A.depth + 3 := by
      rcases hid with rfl | rfl | rfl <;> first | (show A.depth + _ ≤ _; decide) | simp [Around.under, Code.weight, Code.isCreation, Code.isGuard, Code.isCaller, Code.frames, Code.isFrame, guardIds]
    omega
  · have e : (A.under (.builtin id ⟨rest, []⟩)).units ≤ A.units + 16 := by
      rcases hid with rfl | rfl | rfl <;> simp [Around.under, Code.cUnits, Code.frames, Code.isFrame]
    omega
theorem rms_cold : Rms (RoomB False) := ⟨fun r => r.room.un, fun r h => r.mono h, fun r => r.in1, fun r h => room_gd0 r h⟩
theorem frames_gd {A : Around} {id : String} {rest : List Value} (hid : id = "tuple.__repr__" ∨ id = "tuple.__repr__.under" ∨ id = "list.__repr__.loop") : (A.under (.builtin id ⟨rest, []⟩)).frames = A.frames := by
  rcases hid with rfl | rfl | rfl <;> first | rfl | simp [Around.under, Code.frames, Code.isFrame]
section
variable {RM : Nat → Around → Prop} (rm : Rms RM) {X : Cx} {h : Hs} {j N : Nat} {A : Around} {g : List Code} {pins : List (Addr × Obj)} {σ : Sl}
include rm
theorem tup_fold (hg : A.guards = some g) (hr : RM (j + N) A) (hf : A.frames = X.A.frames) : ∀ (l : List Value) (ds : List D) (ts : List Str) (xs : List V) (acc : Array Str) (n M : Nat) (s : Shared) (m : List Addr) (H : Hp) (Q : (Array Str × Nat) → Shared → Prop), ShAll RM X h j N ds ts → Vals xs l → RDs X.K X.mg m H ds xs → n + piled ts ≤ sizeLine → deps ds ≤ M →
    GOk X m H M g → Inv X pins σ H s → Rel X.K X.mg m H h → (∀ s' m' H', Inv X pins σ H' s' → Ext m H m' H' → Rel X.K X.mg m' H' h → Q ⟨acc ++ ts.toArray, n + piled ts⟩ s') →
    wpAny (model X.prog X.w) A (forIn l (⟨acc, n⟩ : (Array Str × Nat)) tupBody) Q X.xe s := by
  intro l
  induction l with
  | nil =>
    intro ds ts xs acc n M s m H Q hT hv hrd _ _ _ I rl hq
    cases hv
    cases hT with
    | nil =>
      have h0 := hq s m H I (Ext.refl m H) rl
      simp only [List.forIn_nil]
      exact wpAny_pure (by simpa [piled] using h0)
    | cons _ _ => simp only [RDs] at hrd; obtain ⟨_, _, e, _⟩ := hrd; cases e
  | cons u l ih =>
    intro ds ts xs acc n M s m H Q hT hv hrd hn hM hgo I rl hq
    cases hv with
    | cons rv hv =>
      cases hT with
      | nil => simp only [RDs] at hrd; cases hrd
      | cons hx hl =>
        rename_i xs' v d t ds' ts'
        simp only [RDs] at hrd
        obtain ⟨v0, vr, e, r1, r2⟩ := hrd
        cases e
        rw [piled_cons] at hn
        simp only [deps] at hM
        rw [List.forIn_cons]
        refine wpAny_bind (wpAny_bind (hx (n + 1) (by omega) A g pins σ s u _ m H _ hg (hgo.mono (by omega)) hr hf I rl r1 rv fun s' m' H' I' e' rl' => wpAny_pure ?_))
        refine ih ds' ts' _ (acc.push t) (n + (t.length + 2)) M s' m' H' Q hl hv (RDs.ext e' _ _ r2) (by omega) (by omega) (hgo.ext e') I' rl' fun s2 m2 H2 I2 e2 rl2 => ?_
        have h1 := hq s2 m2 H2 I2 (e'.trans e2) rl2
        have e : n + piled (t :: ts') = n + (t.length + 2) + piled ts' := by rw [piled_cons]; omega
        rw [e] at h1
        simpa using h1
theorem tup_own {a : Addr} {ds : List D} {ts : List Str} (hT : ShAll RM X h j N ds ts) {s : Shared} {m : List Addr} {H : Hp} {R : Result → Shared → Prop} {base : Nat} {id : String} {rest : List Value} (hid : id = "tuple.__repr__" ∨ id = "tuple.__repr__.under")
    (hcg : (Code.builtin id ⟨.ref a :: rest, []⟩).isGuard = true) (hg : A.guards = some g) (hgo : GOk X m H (deps ds + 1) g) (hr : RM (j + (N + 1)) A) (hf : A.frames = X.A.frames) (I : Inv X pins σ H s) (rl : Rel X.K X.mg m H h) (rd : RD X.K X.mg m H (.tup ds) (.ref a)) (pu : purs ds = true)
    (hR : ∀ u s' m' H', Inv X pins σ H' s' → Ext m H m' H' → Rel X.K X.mg m' H' h → R (.ok (.ret (.str (tupleText ts) u))) s')
    (hE : ∀ e s', X.xe e s' → R (.error e) s') (hsz : base + (tupleText ts).length ≤ sizeLine) :
    wpOwn (model X.prog X.w) A (.builtin id ⟨.ref a :: rest, []⟩) (Builtin.tupleReprAt base ⟨[.ref a], []⟩) (fun fin s' => match fin with | .done f => R (.ok f) s' | .again c' => c'.quiet = true ∧ codeAny (model X.prog X.w) A c' R s') (fun e s' => R (.error e) s') s := by
  have hp : pur (.tup ds) = true := by simp only [pur]; exact pu
  have hd1 : dep (.tup ds) = deps ds + 1 := by simp only [dep]
  have hca : Clear g a := hgo.clear I hp rd (by omega)
  obtain ⟨o, its, n, xs, ha, hc, hd, hv, hrd⟩ := seq_tup I rd
  have hpl := piled_le_tupleText ts
  have hlen : ts.length = its.length := by rw [hT.len, hrd.len, hv.length]
  have hsz0 : (tupleText ts).length ≤ sizeLine := by omega
  rw [tuple_repr_tree, tupleReprUnderWay_eq]
  refine wpOwn_bind (wpOwn_stackTailAny hg (tupGuardF_off _) (tupGuardF_pos _) ?_)
  have hn : (g.any fun c => tupGuardF (.ref a) (c, default)) = false := by
    rw [List.any_eq_false]
    intro c hcm
    rw [tupGuardF_of_clear hca c hcm]
    exact Bool.false_ne_true
  rw [hn]
  refine wpOwn_of_wpAny ?_
  show wpAny _ _ (tupleReprRest base (.ref a)) _ _ s
  unfold tupleReprRest Builtin.Tuple.tupleItemsOf
  refine wpAny_bind (wpAny_bind (wpAny_seqItems ha hd (wpAny_pure ?_)))
  rw [← Array.forIn_toList]
  have hid3 : id = "tuple.__repr__" ∨ id = "tuple.__repr__.under" ∨ id = "list.__repr__.loop" := hid.elim .inl fun z => .inr (.inl z)
  refine wpAny_bind (wpAny_mono (tup_fold rm (guards_under_guard hcg hg) (rm.gd (k := j + N) hr hid3) ((frames_gd hid3).trans hf) its ds ts xs _ _ (deps ds) s m H (fun p s' => (p.1 = (#[] : Array Str) ++ ts.toArray) ∧ ∃ m' H', Inv X pins σ H' s' ∧ Ext m H m' H' ∧ Rel X.K X.mg m' H' h) hT hv hrd (by omega) (Nat.le_refl _) (GOk.cons (d := .tup ds) (by rw [hd1]; exact hgo) hp rd (by omega)) I rl fun s' m' H' I' e' rl' => ⟨rfl, m', H', I', e', rl'⟩) (fun p s' z => ?_) hE)
  obtain ⟨acc, pn⟩ := p
  obtain ⟨e1, m', H', I', e', rl'⟩ := z
  dsimp only at e1
  subst e1
  refine wpAny_bind (wpAny_mkStr (wpAny_pure ?_) (by simpa [tupleText, hlen] using hsz0))
  have h1 := hR s'.toks _ m' H' (I'.tok (s'.toks + 1)) e' rl'
  simpa [tupleText, hlen] using h1
/-- the list of the pieces: nobody's -/
structure PcOk (X : Cx) (pins : List (Addr × Obj)) (P : Addr) : Prop where
  loc : P ≠ X.env.locals
  fs : P ∉ X.fs
  sz : X.s_0.heap.objs.size ≤ P
  cells : ∀ x c, X.env.cells.lookup x = some c → c ≠ P
  pins : ∀ p ∈ X.pn ++ pins, p.1 ≠ P
omit rm in
theorem PcOk.new {s : Shared} {H : Hp} (I : Inv X pins σ H s) : PcOk X pins s.heap.objs.size :=
  ⟨fun e => Nat.lt_irrefl _ (by have := I.lt; rwa [← e] at this), I.nofs (Nat.le_refl _), I.sz, fun x c e z => by
    obtain ⟨v, hv⟩ := I.cell x c e
    obtain ⟨o, h1, _⟩ := hv
    have := Heap.lt_size h1
    rw [z] at this
    exact Nat.lt_irrefl _ this, fun p hp e => by
    have := Heap.lt_size (I.pin p hp).1
    rw [e] at this
    exact Nat.lt_irrefl _ this⟩
omit rm in
theorem Inv.pinP {s : Shared} {H : Hp} {P : Addr} {o : Obj} (I : Inv X pins σ H s) (k : PcOk X pins P) (e : s.heap.get? P = some o) (hn : H P = none) (hc : ∀ v, o.data ≠ .cell v) : Inv X ((P, o) :: pins) σ H s :=
  I.pins_of fun p hp => by
    rcases List.mem_cons.mp hp with rfl | hp
    · exact ⟨e, hn, k.loc, k.fs, hc⟩
    · exact I.pin p (List.mem_append_right _ hp)
omit rm in
theorem Inv.unpinP {s : Shared} {H : Hp} {P : Addr} {o : Obj} (I : Inv X ((P, o) :: pins) σ H s) : Inv X pins σ H s := I.pins_of fun p hp => I.pin p (List.mem_append_right _ (List.mem_cons_of_mem _ hp))
theorem list_loop {a P : Addr} {d : D} {ds : List D} {ts : List Str} {base : Nat} {R : Result → Shared → Prop} (hT : ShAll RM X h j N ds ts) (hS : ∀ (s : Shared) (m : List Addr) (H : Hp), Inv X pins σ H s → RD X.K X.mg m H d (.ref a) → SeqB X H m s "list" a ds) (pu : pur d = true) (hd : dep d = deps ds + 1)
    (hg : A.guards = some g) (hr : RM (j + (N + 1)) A) (hf : A.frames = X.A.frames) (hP : PcOk X pins P) (hne : a ≠ P) (hE : ∀ e s', X.xe e s' → R (.error e) s') (hsz : base + (listText ts).length ≤ sizeLine) :
    ∀ (k i : Nat) (s : Shared) (m : List Addr) (H : Hp) (acc : Array Value) (c : Nat) (done : List (Str × Tok)), ts.length - i = k → i ≤ ts.length → GOk X m H (dep d) g → Inv X pins σ H s → Rel X.K X.mg m H h → RD X.K X.mg m H d (.ref a) →
    s.heap.get? P = some { cls := .type "list", dict := none, data := .seq acc c, slots := #[] } → H P = none → acc.toList = strValues done → done.map (·.1) = ts.take i →
    (∀ u s' m' H', Inv X pins σ H' s' → Ext m H m' H' → Rel X.K X.mg m' H' h → R (.ok (.ret (.str (listText ts) u))) s') →
    codeAny (model X.prog X.w) A (.builtin "list.__repr__.loop" ⟨[.ref a, rawInt i, .ref P, rawInt ((base + piled (ts.take i) : Nat) : Int)], []⟩) R s := by
  have hX : (listText ts).length = (textFrom 0 "[" ts).length + 1 := by
    show (textFrom 0 "[" ts ++ "]").length = _
    rw [strLen_append]; rfl
  have hL := textFrom_len ts 0 "["
  have hsz1 : ts.length ≤ sizeLine := by
    have h1 := hL.1
    rw [if_neg (Nat.lt_irrefl 0)] at h1
    omega
  have hsz2 : ∀ t ∈ ts, t.length ≤ sizeLine := fun t ht => by
    have h2 := hL.2.1 t ht
    omega
  have hsz3 : (listText ts).length ≤ sizeLine := by omega
  have hp3 := piled_le_listText ts
  intro k
  induction k with
  | zero =>
    intro i s m H acc c done hk hi hgo I rl rd hPo hPn hacc hdone hR
    have hin : i = ts.length := by omega
    obtain ⟨oa, its, na, xs, ha, hc, hda, hv, hrd⟩ := hS s m H I rd
    have hlen : ts.length = its.length := by rw [hT.len, hrd.len, hv.length]
    refine codeAny_builtin F.entry_list_repr_loop ?_
    show wpAny _ _ («list.__repr__.loop» ⟨[.ref a, .int i 0, .ref P, .int ((base + piled (ts.take i) : Nat) : Int) 0], []⟩) _ _ s
    rw [repr_loop_tree]
    refine wpAny_bind (wpAny_listItems ha hda ?_)
    have hnone : its.toArray[(i : Int).toNat]? = none := by simp [hin, hlen]
    simp only [hnone]
    unfold reprEnd
    refine wpAny_bind (wpAny_listItems hPo rfl ?_)
    rw [hacc, repr_fold]
    refine wpAny_bind (wpAny_pure ?_)
    have hall : done.map (·.1) = ts := by rw [hdone, hin, List.take_length]
    rw [hall]
    refine wpAny_bind (wpAny_mkStr (wpAny_pure ?_) hsz3)
    exact hR _ _ m H (I.tok _) (Ext.refl m H) rl
  | succ k ih =>
    intro i s m H acc c done hk hi hgo I rl rd hPo hPn hacc hdone hR
    have hlt : i < ts.length := by omega
    obtain ⟨oa, its, na, xs, ha, hc, hda, hv, hrd⟩ := hS s m H I rd
    have hlen : ts.length = its.length := by rw [hT.len, hrd.len, hv.length]
    have hld : i < ds.length := by rw [← hT.len]; exact hlt
    obtain ⟨t, ht, hrep⟩ := hT.get (List.getElem?_eq_getElem hld)
    obtain ⟨v, hvx, hrdi⟩ := hrd.get (List.getElem?_eq_getElem hld)
    have hiu : i < its.length := by omega
    have hrv : RelV v its[i] := by
      have : ∀ {xs : List V} {us : List Value}, Vals xs us → ∀ {i : Nat} {v : V} (hi : i < us.length), xs[i]? = some v → RelV v us[i] := by
        intro xs us hv
        induction hv with
        | nil => intro i v hi e; simp at e
        | cons r t ih =>
          intro i v hi e
          cases i with
          | zero => simp at e; subst e; exact r
          | succ i => exact ih (by simpa using hi) (by simpa using e)
      exact this hv hiu hvx
    have hdi : dep ds[i] ≤ deps ds := by
      have : ∀ (ds : List D) (i : Nat) (hi : i < ds.length), dep ds[i] ≤ deps ds := by
        intro ds
        induction ds with
        | nil => intro i hi; exact absurd hi (Nat.not_lt_zero _)
        | cons d r ih =>
          intro i hi
          simp only [deps]
          cases i with
          | zero => simp; omega
          | succ i => have := ih i (by simpa using hi); simp at this ⊢; omega
      exact this ds i hld
    have hp1 := piled_take_succ ht
    have hp2 := piled_take_le ts (i + 1)
    refine codeAny_builtin F.entry_list_repr_loop ?_
    show wpAny _ _ («list.__repr__.loop» ⟨[.ref a, .int i 0, .ref P, .int ((base + piled (ts.take i) : Nat) : Int) 0], []⟩) _ _ s
    rw [repr_loop_tree]
    refine wpAny_bind (wpAny_listItems ha hda ?_)
    have hsome : its.toArray[(i : Int).toNat]? = some its[i] := by simp [hiu]
    simp only [hsome]
    rw [Int.toNat_natCast]
    have IP := Inv.pinP I hP hPo hPn (fun v => by simp)
    refine wpAny_bind (wpAny_mono (wpAny_holding (hrep (base + piled (ts.take i) + 1) (by omega) _ _ _ σ s _ v m H (fun t' s' => t' = t ∧ ∃ m' H', Inv X ((P, _) :: pins) σ H' s' ∧ Ext m H m' H' ∧ Rel X.K X.mg m' H' h) (guards_under_guard (isGuard_list_loop _) hg)
      (GOk.cons (d := d) hgo pu rd (by omega)) (rm.gd (k := j + N) hr (.inr (.inr rfl))) ((frames_gd (.inr (.inr rfl))).trans hf) IP rl hrdi hrv fun s' m' H' I' e' rl' => ⟨rfl, m', H', I', e', rl'⟩)) (fun t' s' z => ?_) hE)
    obtain ⟨rfl, m', H', I', e', rl'⟩ := z
    obtain ⟨hP1, hP2, _⟩ := I'.pin (P, _) (List.mem_append_right _ List.mem_cons_self)
    have I2 := Inv.unpinP I'
    refine wpAny_bind (wpAny_mkStr ?_ (hsz2 _ (List.mem_of_getElem? ht)))
    refine wpAny_bind ?_
    show wpAny _ _ (updateSeq P _) _ _ _
    have hasz : acc.size ≤ sizeLine := by
      have e1 : acc.toList.length = acc.size := by simp
      have e2 : (strValues done).length = done.length := by simp [strValues]
      have e3 : done.length = (ts.take i).length := by rw [← hdone, List.length_map]
      have e4 : (ts.take i).length ≤ i := by rw [List.length_take]; omega
      rw [hacc] at e1; omega
    refine wpAny_updateSeq hP1 rfl (wpAny_pure ⟨F.quiet_list_repr_loop _, ?_⟩) hasz
    have e1 : ((i : Int) + 1) = ((i + 1 : Nat) : Int) := by omega
    have e2 : base + piled (ts.take i) + (t'.length + 2) = base + piled (ts.take (i + 1)) := by omega
    rw [e1, e2]
    have I3 : Inv X pins σ H' { s' with heap := s'.heap.update P (Obj.mapSeq fun xs => xs.push (.str t' s'.toks)), toks := s'.toks + 1 } :=
      I2.turned (fun b o hb e => (Heap.get?_update_other _ _ (fun h : P = b => hb h.symm)).trans e) hP2 hP.loc (.inr hP.sz) hP.cells hP.pins
    exact ih (i + 1) _ m' H' (acc.push (.str t' s'.toks)) _ (done ++ [(t', s'.toks)]) (by omega) (by omega) (hgo.ext e') I3 rl' (RD.ext e' _ _ rd) (Heap.get?_update_self _ hP1 rfl) hP2 (by simp [hacc, strValues]) (by simp [List.take_add_one, ht, hdone])
      fun u s2 m2 H2 i2 e2 r2 => hR u s2 m2 H2 i2 (e'.trans e2) r2
/-! ### the heads -/
theorem list_at {a : Addr} {d : D} {ds : List D} {ts : List Str} {base : Nat} {R : Result → Shared → Prop} {s : Shared} {m : List Addr} {H : Hp} (hT : ShAll RM X h j N ds ts) (hS : ∀ (s : Shared) (m : List Addr) (H : Hp), Inv X pins σ H s → RD X.K X.mg m H d (.ref a) → SeqB X H m s "list" a ds) (pu : pur d = true) (hd : dep d = deps ds + 1) (hds : ds ≠ [])
    (hg : A.guards = some g) (hr : RM (j + (N + 1)) A) (hf : A.frames = X.A.frames) (hE : ∀ e s', X.xe e s' → R (.error e) s') (hsz : base + (listText ts).length ≤ sizeLine) (hgo : GOk X m H (dep d) g) (I : Inv X pins σ H s) (rl : Rel X.K X.mg m H h) (rd : RD X.K X.mg m H d (.ref a))
    (hR : ∀ u s' m' H', Inv X pins σ H' s' → Ext m H m' H' → Rel X.K X.mg m' H' h → R (.ok (.ret (.str (listText ts) u))) s') :
    wpAny (model X.prog X.w) A.in1 (Builtin.listReprAt base ⟨[.ref a], []⟩) (fun fin s' => match fin with | .done f => R (.ok f) s' | .again c' => c'.quiet = true ∧ codeAny (model X.prog X.w) A c' R s') (fun e s' => R (.error e) s') s := by
  have hca : Clear g a := hgo.clear I pu rd (Nat.le_refl _)
  obtain ⟨oa, its, na, xs, ha, hc, hda, hv, hrd⟩ := hS s m H I rd
  have hlen : ts.length = its.length := by rw [hT.len, hrd.len, hv.length]
  cases its with
  | nil =>
    exfalso
    rw [hT.len] at hlen
    exact hds (List.eq_nil_of_length_eq_zero hlen)
  | cons x l =>
    refine wpAny_list_repr_head (A := A.in1) hg (fun v rest kw hm => listSameRef_of_ne (hca _ _ _ _ hm)) ha hda ?_
    refine wpAny_bind (m := newList []) (wpAny_newObj_type ?_)
    refine wpAny_pure ⟨F.quiet_list_repr_loop _, ?_⟩
    have kp : ∀ b o, s.heap.get? b = some o → (s.heap.push { cls := .type "list", dict := none, data := .seq #[] 0 }).get? b = some o := fun b o e => Heap.get?_push_of_some _ e
    have I1 : Inv X pins σ H { s with heap := s.heap.push { cls := .type "list", dict := none, data := .seq #[] 0 } } := by
      have := I.kept (t' := s.toks) kp
      exact this
    have key := list_loop rm (P := s.heap.objs.size) (base := base) (R := R) hT hS pu hd hg hr hf (PcOk.new I) (Nat.ne_of_lt (Heap.lt_size ha)) hE hsz _ 0 _ m H #[] 0 [] rfl (Nat.zero_le _) hgo I1 rl rd (Heap.get?_push_size _ rfl) (I.hok.fresh (Nat.le_refl _)) (by simp [strValues]) (by simp)
      hR
    simpa [piled] using key
theorem under_list {a : Addr} {d : D} {ds : List D} {ts : List Str} (hT : ShAll RM X h j N ds ts) (hS : ∀ (pins : List (Addr × Obj)) (σ : Sl) (s : Shared) (m : List Addr) (H : Hp), Inv X pins σ H s → RD X.K X.mg m H d (.ref a) → SeqB X H m s "list" a ds) (pu : pur d = true) (hd : dep d = deps ds + 1) (hds : ds ≠ [])
    {s : Shared} {m : List Addr} {H : Hp} {Q : Value → Shared → Prop} {base : Nat} (hg : A.guards = some g) (hr : RM (j + (N + 1)) A) (hf : A.frames = X.A.frames) (hsz : base + (listText ts).length ≤ sizeLine) (hgo : GOk X m H (dep d) g) (I : Inv X pins σ H s) (rl : Rel X.K X.mg m H h) (rd : RD X.K X.mg m H d (.ref a))
    (hQ : ∀ u s' m' H', Inv X pins σ H' s' → Ext m H m' H' → Rel X.K X.mg m' H' h → Q (.str (listText ts) u) s') :
    wpAny (model X.prog X.w) A (call (.builtin "list.__repr__.under") [.ref a, rawInt base]) Q X.xe s := by
  obtain ⟨o, its, n, xs, ha, hc, hd', hv, hrd⟩ := hS pins σ s m H I rd
  exact call_twin_plain F.plain_list_repr_under F.entry_list_repr_under F.check_list_repr_under ⟨o, ha, hc⟩ F.slot_list_repr.toG (F.args_list_repr_1 _)
    (list_at rm (R := callEnd Q X.xe) hT (hS pins σ) pu hd hds hg hr hf (fun _ _ z => z) hsz hgo I rl rd hQ)
theorem repr_list {a : Addr} {d : D} {ds : List D} {ts : List Str} (hT : ShAll RM X h j N ds ts) (hS : ∀ (pins : List (Addr × Obj)) (σ : Sl) (s : Shared) (m : List Addr) (H : Hp), Inv X pins σ H s → RD X.K X.mg m H d (.ref a) → SeqB X H m s "list" a ds) (pu : pur d = true) (hd : dep d = deps ds + 1) (hds : ds ≠ [])
    {s : Shared} {m : List Addr} {H : Hp} {Q : Value → Shared → Prop} (hg : A.guards = some g) (hr : RM (j + (N + 1)) A) (hf : A.frames = X.A.frames) (hsz : (listText ts).length ≤ sizeLine) (hgo : GOk X m H (dep d) g) (I : Inv X pins σ H s) (rl : Rel X.K X.mg m H h) (rd : RD X.K X.mg m H d (.ref a))
    (hQ : ∀ u s' m' H', Inv X pins σ H' s' → Ext m H m' H' → Rel X.K X.mg m' H' h → Q (.str (listText ts) u) s') :
    wpAny (model X.prog X.w) A (call (.builtin "list.__repr__") [.ref a]) Q X.xe s := by
  obtain ⟨o, its, n, xs, ha, hc, hd', hv, hrd⟩ := hS pins σ s m H I rd
  exact wpAny_call (codeAny_call_builtin F.slot_list_repr.plain F.entry_list_repr (F.slot_list_repr.check _ _ _ _ _ _ _ _ ⟨o, ha, hc⟩ (F.args_list_repr_1 _)
    (list_at rm (base := 0) (R := callEnd Q X.xe) hT (hS pins σ) pu hd hds hg hr hf (fun _ _ z => z) (by omega) hgo I rl rd hQ)))
theorem under_tup {a : Addr} {ds : List D} {ts : List Str} (hT : ShAll RM X h j N ds ts) (pu : purs ds = true) {s : Shared} {m : List Addr} {H : Hp} {Q : Value → Shared → Prop} {base : Nat} (hg : A.guards = some g) (hr : RM (j + (N + 1)) A) (hf : A.frames = X.A.frames) (hsz : base + (tupleText ts).length ≤ sizeLine)
    (hgo : GOk X m H (deps ds + 1) g) (I : Inv X pins σ H s) (rl : Rel X.K X.mg m H h) (rd : RD X.K X.mg m H (.tup ds) (.ref a)) (hQ : ∀ u s' m' H', Inv X pins σ H' s' → Ext m H m' H' → Rel X.K X.mg m' H' h → Q (.str (tupleText ts) u) s') :
    wpAny (model X.prog X.w) A (call (.builtin "tuple.__repr__.under") [.ref a, rawInt base]) Q X.xe s := by
  obtain ⟨o, its, n, xs, ha, hc, hd', hv, hrd⟩ := seq_tup I rd
  exact call_twin_own (F.quiet_tuple_repr_under _) F.entry_tuple_repr_under F.check_tuple_repr_under ⟨o, ha, hc⟩ F.slot_tuple_repr (F.args_tuple_repr_1 _)
    (tup_own rm (R := callEnd Q X.xe) hT (.inr rfl) (isGuard_tuple_repr_under _) hg hgo hr hf I rl rd pu hQ (fun _ _ z => z) hsz)
theorem repr_tup {a : Addr} {ds : List D} {ts : List Str} (hT : ShAll RM X h j N ds ts) (pu : purs ds = true) {s : Shared} {m : List Addr} {H : Hp} {Q : Value → Shared → Prop} (hg : A.guards = some g) (hr : RM (j + (N + 1)) A) (hf : A.frames = X.A.frames) (hsz : (tupleText ts).length ≤ sizeLine)
    (hgo : GOk X m H (deps ds + 1) g) (I : Inv X pins σ H s) (rl : Rel X.K X.mg m H h) (rd : RD X.K X.mg m H (.tup ds) (.ref a)) (hQ : ∀ u s' m' H', Inv X pins σ H' s' → Ext m H m' H' → Rel X.K X.mg m' H' h → Q (.str (tupleText ts) u) s') :
    wpAny (model X.prog X.w) A (call (.builtin "tuple.__repr__") [.ref a]) Q X.xe s := by
  obtain ⟨o, its, n, xs, ha, hc, hd', hv, hrd⟩ := seq_tup I rd
  exact wpAny_call (codeAny_call_builtin_own (Code.quiet_builtin _ (by decide +kernel)) F.entry_tuple_repr (F.slot_tuple_repr.check _ _ _ _ _ _ _ _ ⟨o, ha, hc⟩ (F.args_tuple_repr_1 _)
    (tup_own rm (base := 0) (R := callEnd Q X.xe) hT (.inl rfl) (isGuard_tuple_repr _) hg hgo hr hf I rl rd pu hQ (fun _ _ z => z) (by omega))))
end
/-! ### a class's own __repr__ -/
structure OwnR (X : Cx) (j : Nat) (c : Str) (fs : Fs) : Prop where
  ex : ∃ (C f : Addr) (fd : FuncData) (ps : List Str), X.mg c = some (.ref C) ∧ PySem.W.findIn X.K (.ref C) "__repr__" = some (some (.ref f)) ∧ PySem.W.isFn X.K (.ref f) = true ∧ FnB False X.prog X.w X.K X.mg X.base j f fd ps fs ∧ DBn X.K X.mg fd ps 1 [] (fun ds _ => ds) ∧ ps.length = 1
def OwnRT (X : Cx) (j : Nat) (t : Tbl) : Prop := ∀ p ∈ t, OwnR X j p.1 p.2
section
variable {X : Cx} {h : Hs} {j : Nat} {A : Around} {pins : List (Addr × Obj)} {σ : Sl}
theorem run_ownB {f : Addr} {fd : FuncData} {ps : List Str} {fs : Fs} {n : Nat} (F : FnB False X.prog X.w X.K X.mg X.base j f fd ps fs) (b : DBn X.K X.mg fd ps n [] (fun ds _ => ds)) (hn : ps.length = n) (hr : RoomB False j A) (fr : A.frames = X.A.frames) {H : Hp} {s : Shared} {Q : VK} {us : List Value} {vs : List V} {ds : List D} {mm : List Addr} {h : Hs} {Wx : XK}
    (I : Inv X pins σ H s) (r : Vals vs us) (rl : Rel X.K X.mg mm H h) (rd : RDs X.K X.mg mm H ds vs) (l : ds.length = n) (po : Po X.K X.mg (RD X.K X.mg) mm H (fs ds h).st Q Wx) : wpAny (model X.prog X.w) A (call (.ref f) us) (EP X pins σ Q) X.xe s := by
  obtain ⟨g, gV, kb, kd⟩ := b.ex
  have e0 : Env0 X.prog X.w X.K X.mg X.base A X.stack s H := by
    have e := I.env0
    exact ⟨by rw [fr]; exact e.frames, e.mod, e.bs, e.bsz, e.funs, e.frf, e.hok, e.bare⟩
  have lv : vs.length = n := by rw [← rd.len]; exact l
  have rn : RDs X.K X.mg mm H [] [] := by simp only [RDs]
  have r2 := kb.rel r (.nil : Vals [] [])
  have sp : SpL X.K X.mg ps.length fs (gV vs []) H Q (fun _ _ _ => False) := ⟨mm, ds, h, by rw [l, hn], rl, kd mm H ds vs [] [] l rfl rd rn, po.st⟩
  refine wpAny_call (codeAny_mono (F.run A X.stack s H ⟨us, []⟩ (g us []) (gV vs []) Q _ hr e0 (by
    have := kb.to s us [] I.kIn (by rw [← r.length]; exact lv) rfl
    simpa using this) r2 sp) fun r s' hq => ?_)
  cases r with
  | error e => obtain ⟨_, _, _, _, _, _, _, _, _, _, _, _, z⟩ := hq; exact z.elim
  | ok fl =>
    cases fl with
    | ret u => exact I.after hq
    | next => exact False.elim hq
    | brk => exact False.elim hq
    | cont => exact False.elim hq
/-- it is called, and tells t -/
theorem own_call {tb : Tbl} (o : OwnRT X j tb) {c : Str} {fs : List (Str × D)} {t : Str} (e : ownT tb h c fs = some t) (hr : RoomB False j A) (hf : A.frames = X.A.frames) {s : Shared} {m : List Addr} {H : Hp} {v : V} {u : Value} (I : Inv X pins σ H s) (rl : Rel X.K X.mg m H h) (rd : RD X.K X.mg m H (.ins c fs) v) (rv : RelV v u) {Q : Value → Shared → Prop}
    (hQ : ∀ k s' m' H', Inv X pins σ H' s' → Ext m H m' H' → Rel X.K X.mg m' H' h → Q (.str t k) s') :
    ∃ (a C f : Addr) (ox : Obj) (od : Option Obj), u = .ref a ∧ PySem.W.InstAt s.heap a ox C od ∧ PySem.W.findIn X.K (.ref C) "__repr__" = some (some (.ref f)) ∧ PySem.W.isFn X.K (.ref f) = true ∧ wpAny (model X.prog X.w) A (call (.ref f) [.ref a]) Q X.xe s := by
  unfold ownT at e
  split at e
  · rename_i f hlk
    split at e
    · rename_i t' h' hf'
      split at e
      · rename_i hh
        subst hh
        cases e
        obtain ⟨C, fa, fd, ps, hC, hs, hfn, F, b, hn⟩ := (o (c, f) (PySem.mem_of_lookup hlk)).ex
        have rd0 := rd
        simp only [RD] at rd
        obtain ⟨a, C', dx, ys, rfl, g, fH, hm, rf⟩ := rd
        rw [hC] at g; cases g
        obtain rfl : u = Value.ref a := rv
        obtain ⟨mA, J, _⟩ := ins_get I.hok fH
        obtain ⟨od, J, _⟩ := J.look
        refine ⟨a, C, fa, _, od, rfl, J, hs, hfn, ?_⟩
        have rds : RDs X.K X.mg m H [.ins c fs] [.ref a] := by
          simp only [RDs]
          exact ⟨_, _, rfl, rd0, rfl⟩
        have rvs : Vals [V.ref a] [Value.ref a] := .cons rfl .nil
        refine wpAny_mono (run_ownB (Q := fun v H' => v = .str t ∧ ∃ m', Ext m H m' H' ∧ Rel X.K X.mg m' H' h') (Wx := fun _ _ _ => False) F b hn hr hf I rvs rl rds rfl (by
          show Po X.K X.mg (RD X.K X.mg) m H (f [D.ins c fs] h').st _ _
          rw [hf']
          exact fun m1 H1 v1 e1 r1 rd1 => by
            simp only [RD] at rd1
            exact ⟨rd1, m1, e1, r1⟩)) (fun r s1 ⟨z, H1, I1, rz, ez, m1, e1, r1⟩ => ?_) fun _ _ z => z
        subst ez
        obtain ⟨k, rfl⟩ := rz
        exact hQ k s1 m1 H1 I1 e1 r1
      · cases e
    · cases e
  · cases e
/-- own instances can be shown -/
def Cap (RM : Nat → Around → Prop) (X : Cx) (j : Nat) (tb : Tbl) : Prop := ∀ (h : Hs) (c : Str) (fs : List (Str × D)) (t : Str), ownT tb h c fs = some t → ∀ (A : Around) (pins : List (Addr × Obj)) (σ : Sl) (s : Shared) (m : List Addr) (H : Hp) (v : V) (u : Value) (Q : Value → Shared → Prop), RM j A → A.frames = X.A.frames → Inv X pins σ H s → Rel X.K X.mg m H h → RD X.K X.mg m H (.ins c fs) v → RelV v u →
  (∀ k s' m' H', Inv X pins σ H' s' → Ext m H m' H' → Rel X.K X.mg m' H' h → Q (.str t k) s') →
    ∃ (a C f : Addr) (ox : Obj) (od : Option Obj), u = .ref a ∧ PySem.W.InstAt s.heap a ox C od ∧ PySem.W.findIn X.K (.ref C) "__repr__" = some (some (.ref f)) ∧ PySem.W.isFn X.K (.ref f) = true ∧ wpAny (model X.prog X.w) A (call (.ref f) [.ref a]) Q X.xe s
theorem cap_cold {X : Cx} {j : Nat} {tb : Tbl} (o : OwnRT X j tb) : Cap (RoomB False) X j tb := fun h c fs t e A pins σ s m H v u Q hr hf I rl rd rv hQ => own_call o e hr hf I rl rd rv hQ
theorem ifBoundBy {M : Model} {s : Shared} {K : PySem.W.Frag} {x C f : Addr} {ox : Obj} {od : Option Obj} {E : Value → Shared → Prop} {last : Value → List Value → Sem Value} {Q : Option Value → Shared → Prop} (X : K.In s.heap) (I : PySem.W.InstAt s.heap x ox C od) (hs : PySem.W.findIn K (.ref C) "__repr__" = some (some (.ref f))) (hf : PySem.W.isFn K (.ref f) = true)
    (h : wpAny M A (last (.ref f) [.ref x]) (fun v => Q (some v)) E s) : wpAny M A (callSpecialIfBoundBy? last (.ref x) "__repr__") Q E s := by
  simp only [callSpecialIfBoundBy?, bindSpecialIfBound?]
  refine wpAny_holding (wpAny_bind (wpAny_bind (wpAny_bind (I.type.here ((PySem.W.looks_findIn X hs).here ?_)))))
  refine wpAny_bind (wpAny_askSetting (wpAny_ite ?_))
  have fin : wpAny M A (last (.ref f) [.ref x] >>= fun v => pure (some v)) Q E s := wpAny_bind (wpAny_mono h (fun v s' h' => wpAny_pure h') fun _ _ h' => h')
  split
  · exact wpAny_bind ((PySem.W.bind_fn X _ (beq_iff_eq.mp hf)).here (wpAny_pure (by exact fin)))
  · exact wpAny_tryCatch (wpAny_bind ((PySem.W.bind_fn X _ (beq_iff_eq.mp hf)).here (wpAny_pure (by exact fin))))
/-- an own instance within what is shown -/
theorem sh_own {RM : Nat → Around → Prop} (rm : Rms RM) {tb : Tbl} (o : Cap RM X j tb) {N : Nat} {c : Str} {fs : List (Str × D)} {t : Str} (e : ownT tb h c fs = some t) : ShR RM X h j N (.ins c fs) t := by
  intro base hb A g pins σ s u v m H Q hg hgo hr hf I rl rd rv hq
  obtain ⟨a, C, f, ox, od, rfl, J, hs, hfn, hw⟩ := o h c fs t e A pins σ s m H v u (fun v s' => (∃ x u, v = .str x u) ∧ ∃ x u, v = .str x u ∧ Q x s') (rm.mono hr (Nat.le_add_right _ _)) hf I rl rd rv fun k s' m' H' i' e' r' => ⟨⟨_, _, rfl⟩, _, _, rfl, hq s' m' H' i' e' r'⟩
  have hu : A.units < cLine := by have := rm.un hr; omega
  have KX := I.kIn
  refine wpAny_pyReprUnder_ref (by omega) ?_
  unfold pyReprObjUnder pyReprObjBy
  refine wpAny_bind (wpAny_cRoomFor hu ?_)
  refine wpAny_bind (wpAny_bind (J.type.here ((PySem.W.looks_findIn KX hs).here ?_)))
  simp only [Option.isNone_some, Bool.false_eq_true, if_false]
  refine wpAny_bind (ifBoundBy KX J hs hfn ?_)
  show wpAny _ _ (call (.ref f) ([.ref a] ++ [])) _ _ _
  refine wpAny_mono hw (fun v s' z => ?_) fun _ _ z => z
  obtain ⟨⟨x, u, rfl⟩, z⟩ := z
  exact wpAny_bind (wpAny_isInstance (T := "str") (b := true) rfl isSubtype_str_str (wpAny_pure z))
end
theorem sh_list {RM : Nat → Around → Prop} (rm : Rms RM) {X : Cx} {h : Hs} {j M : Nat} {d : D} {ds : List D} {ts : List Str} (hT : ShAll RM X h j M ds ts) (pu : purs ds = true) (hp : pur d = true) (hd : dep d = deps ds + 1) (hS : ∀ {pins : List (Addr × Obj)} {σ : Sl} {H : Hp} {s : Shared} {m : List Addr} {a : Addr}, Inv X pins σ H s → RD X.K X.mg m H d (.ref a) → SeqB X H m s "list" a ds)
    (hv : ∀ (K : PySem.W.Frag) (m : List Addr) (H : Hp) (v : V), RD K X.mg m H d v → ∃ a, v = .ref a) : ShR RM X h j (M + 1) d (listText ts) := by
  intro base hb A g pins σ s u v m H Q hg hgo hr hf I rl rd rv hq
  obtain ⟨a, rfl⟩ := hv _ _ _ _ rd
  obtain rfl : u = Value.ref a := rv
  obtain ⟨oo, its, n, xs, ha, hc, hda, hvs, hrd⟩ := hS I rd
  have hu : A.units < cLine := by have := rm.un hr; omega
  cases ds with
  | nil =>
    cases hT with
    | nil =>
      simp only [RDs] at hrd
      subst hrd
      cases hvs
      rw [listText_nil] at hq hb
      exact wpAny_pyReprUnder_ref (by omega) (wpAny_pyReprObjUnder_list_empty ⟨oo, ha, hc⟩ hu ha hda ⟨_, _, rfl, hq _ m H (I.tok _) (Ext.refl m H) rl⟩)
  | cons d1 dr =>
    exact wpAny_pyReprUnder_ref (by omega) (wpAny_pyReprObjUnder_twin (twin := "list.__repr__.under") ⟨oo, ha, hc⟩ F.slot_list_repr.toG rfl hu
      (under_list rm (Q := fun v s' => (∃ x u, v = .str x u) ∧ ∃ x u, v = .str x u ∧ Q x s') hT (fun pins σ s m H I r => hS I r) hp hd (by simp) hg hr hf hb hgo I rl rd fun k s' m' H' i' e' r' => ⟨⟨_, _, rfl⟩, _, _, rfl, hq s' m' H' i' e' r'⟩))
theorem dct_obj {X : Cx} {pins : List (Addr × Obj)} {σ : Sl} {H : Hp} {s : Shared} {m : List Addr} (I : Inv X pins σ H s) {a : Addr} (r : RD X.K X.mg m H (.dct []) (.ref a)) : ∃ o n, s.heap.get? a = some o ∧ o.cls = .type "dict" ∧ o.data = .dict #[] n ∧ (a == sysModules) = false := by
  simp only [RD] at r
  obtain ⟨a', ys, e, f, _, r⟩ := r
  cases e
  simp only [RDk] at r
  subst r
  obtain ⟨_, hs, vs, kv, o, es, ep, h1, h2, h3, _, h5, _⟩ := I.hok _ _ f
  have e1 : vs = [] := by cases kv; rfl
  subst e1
  have e2 : es.toList = [] := by
    generalize es.toList = l at h5
    cases h5
    rfl
  have e3 : es = #[] := by simpa using congrArg List.toArray e2
  subst e3
  exact ⟨o, ep, h1, h2.1, h3, hs⟩
theorem dictText_nil : dictText [] = ("{}" : Str) := by decide +kernel
section
variable {RM : Nat → Around → Prop} {X : Cx} {h : Hs} {j : Nat} {tb : Tbl}
mutual
theorem sh_ok (rm : Rms RM) (o : Cap RM X j tb) : ∀ (d : D) (t : Str) (N : Nat), shD tb h d = some t → dep d ≤ N → ShR RM X h j N d t
  | .non, t, N, e, _ => by
    simp only [shD] at e; cases e
    exact ShR.of_is fun v u m H r rv => by
      simp only [RD] at r; subst r
      obtain rfl : u = Value.none := rv
      exact ReprIs.none
  | .bl b, t, N, e, _ => by
    simp only [shD] at e; cases e
    exact ShR.of_is fun v u m H r rv => by
      simp only [RD] at r; subst r
      obtain rfl : u = Value.bool b := rv
      exact ReprIs.bool b
  | .int i, t, N, e, _ => by
    simp only [shD] at e
    split at e
    · rename_i hi
      cases e
      exact ShR.of_is fun v u m H r rv => by
        simp only [RD] at r; subst r
        obtain ⟨k, rfl⟩ := rv
        exact ReprIs.int k hi
    · cases e
  | .str x, t, N, e, _ => by
    simp only [shD] at e
    split at e
    · rename_i hi
      cases e
      exact ShR.of_is fun v u m H r rv => by
        simp only [RD] at r; subst r
        obtain ⟨k, rfl⟩ := rv
        exact ReprIs.str x k hi
    · cases e
  | .tup ds, t, N, e, hN => by
    simp only [shD] at e
    obtain ⟨ts, e1, rfl⟩ := Option.map_eq_some_iff.mp e
    simp only [dep] at hN
    obtain ⟨M, rfl⟩ : ∃ M, N = M + 1 := ⟨N - 1, by omega⟩
    have hT := shs_ok rm o ds ts M e1 (by omega)
    have pu := purs_of ds ts e1
    intro base hb A g pins σ s u v m H Q hg hgo hr hf I rl rd rv hq
    have rd0 := rd
    simp only [RD] at rd0
    obtain ⟨a, xs, rfl, _, _⟩ := rd0
    obtain rfl : u = Value.ref a := rv
    obtain ⟨oo, its, n, xs, ha, hc, _⟩ := seq_tup I rd
    have hu : A.units < cLine := by have := rm.un hr; omega
    simp only [dep] at hgo
    exact wpAny_pyReprUnder_ref (by omega) (wpAny_pyReprObjUnder_twin (twin := "tuple.__repr__.under") ⟨oo, ha, hc⟩ F.slot_tuple_repr rfl hu
      (under_tup rm (Q := fun v s' => (∃ x u, v = .str x u) ∧ ∃ x u, v = .str x u ∧ Q x s') hT pu hg hr hf hb hgo I rl rd fun k s' m' H' i' e' r' => ⟨⟨_, _, rfl⟩, _, _, rfl, hq s' m' H' i' e' r'⟩))
  | .lst ds, t, N, e, hN => by
    simp only [shD] at e
    obtain ⟨ts, e1, rfl⟩ := Option.map_eq_some_iff.mp e
    simp only [dep] at hN
    obtain ⟨M, rfl⟩ : ∃ M, N = M + 1 := ⟨N - 1, by omega⟩
    exact sh_list rm (d := .lst ds) (shs_ok rm o ds ts M e1 (by omega)) (purs_of ds ts e1) (by simp only [pur]; exact purs_of ds ts e1) (by simp only [dep]) (fun I r => seq_lst I r) fun _ _ _ _ r => by simp only [RD] at r; obtain ⟨a, _, rfl, _⟩ := r; exact ⟨a, rfl⟩
  | .scr ds, t, N, e, hN => by
    simp only [shD] at e
    obtain ⟨ts, e1, rfl⟩ := Option.map_eq_some_iff.mp e
    simp only [dep] at hN
    obtain ⟨M, rfl⟩ : ∃ M, N = M + 1 := ⟨N - 1, by omega⟩
    exact sh_list rm (d := .scr ds) (shs_ok rm o ds ts M e1 (by omega)) (purs_of ds ts e1) (by simp only [pur]; exact purs_of ds ts e1) (by simp only [dep]) (fun I r => seq_scr I r) fun _ _ _ _ r => by simp only [RD] at r; obtain ⟨a, _, rfl, _⟩ := r; exact ⟨a, rfl⟩
  | .dct kvs, t, N, e, _ => by
    simp only [shD] at e
    split at e
    · rename_i hk
      cases e
      have : kvs = [] := by simpa using hk
      subst this
      intro base hb A g pins σ s u v m H Q hg hgo hr hf I rl rd rv hq
      have rd0 := rd
      simp only [RD] at rd0
      obtain ⟨a, ys, rfl, _⟩ := rd0
      obtain rfl : u = Value.ref a := rv
      obtain ⟨oo, n, ha, hc, hd, hs⟩ := dct_obj I rd
      have hca : Clear g a := hgo.clear I (by simp only [pur]; rfl) rd (Nat.le_refl _)
      have hu : A.units + 2 < cLine := by have := rm.un hr; omega
      have key := ReprK.dict (prog := X.prog) (w := X.w) (as := []) (h₀ := s.heap) (d := 0) (ps := []) ha hc hd hs (by simp) .nil
      rw [dictText_nil] at key
      exact key base hb A g _ s Q hg (fun b hb => by rw [List.mem_singleton.mp hb]; exact hca) (by omega) (fun _ _ e => e) fun h' tk kp => hq _ m H (I.kept kp) (Ext.refl m H) rl
    · cases e
  | .ins c fs, t, N, e, _ => by
    simp only [shD] at e
    exact sh_own rm o e
  | .ref n, t, N, e, _ => by simp only [shD] at e; cases e
  | .exn x c fs, t, N, e, _ => by simp only [shD] at e; cases e
theorem shs_ok (rm : Rms RM) (o : Cap RM X j tb) : ∀ (ds : List D) (ts : List Str) (N : Nat), shDs tb h ds = some ts → deps ds ≤ N → ShAll RM X h j N ds ts
  | [], ts, N, e, _ => by simp only [shDs] at e; cases e; exact .nil
  | d :: r, ts, N, e, hN => by
    simp only [shDs] at e
    simp only [deps] at hN
    split at e
    · rename_i t ts' e1 e2
      cases e
      exact .cons (sh_ok rm o d t N e1 (by omega)) (shs_ok rm o r ts' N e2 (by omega))
    · cases e
end
end
/-! ### repr(x) -/
noncomputable def gReprO (tb : Tbl) : VA := fun ds h => match ds with
  | [.ref n] => gRepr [.ref n] h
  | [d] => match shD tb h d with
    | some t => if t.length ≤ sizeLine ∧ dep d ≤ 10 then .ok (.str t) h else .no
    | none => .no
  | _ => .no
section
variable {X : Cx} {j : Nat} {tb : Tbl}
theorem call_reprR {RM : Nat → Around → Prop} (rm : Rms RM) (o : Cap RM X j tb) (hr : RM (j + 12) X.A) (hg0 : X.A.guards = some []) : CallR X (.builtin "repr") (rdA X.K X.mg (gReprO tb)) := by
  intro pins s σ H xs us Q I rv ⟨m, h, ds, rl, rds, Wx, po⟩
  have hu : X.A.units + 1 < cLine := by have := rm.un hr; omega
  have hrg : RmG X.A := ⟨by have := rm.un hr; omega, hg0⟩
  have hgo : GOk X m H 100 [] := GOk.nil
  unfold gReprO at po
  split at po
  · rename_i n
    exact call_reprD hrg pins s σ H xs us Q I rv (g_repr m H h _ xs Q _ rl rds po)
  · rename_i d hnr
    obtain ⟨v, rfl, rd⟩ := rds.one
    obtain ⟨u, rfl, ru⟩ := rv.one
    split at po
    · rename_i t ht
      split at po
      · rename_i hz
        have fin : ∀ k s' m' H', Inv X pins σ H' s' → Ext m H m' H' → Rel X.K X.mg m' H' h → EP X pins σ Q (.str t k) s' := fun k s' m' H' i' e' r' => ⟨.str t, H', i', ⟨k, rfl⟩, po m' H' _ e' r' (by simp only [RD])⟩
        have hR : ∀ N, N ≤ 10 → RM (j + (N + 1)) X.A.in1 := fun N hN => rm.in1 (rm.mono (j := j + (N + 1) + 1) hr (by omega))
        cases d with
        | non =>
          simp only [shD] at ht; cases ht
          simp only [RD] at rd; subst rd
          obtain rfl : u = Value.none := ru
          exact PySem.P.repr_of_none (fin _ _ m H (I.tok _) (Ext.refl m H) rl)
        | bl b =>
          simp only [shD] at ht; cases ht
          simp only [RD] at rd; subst rd
          obtain rfl : u = Value.bool b := ru
          exact PySem.P.repr_of_bool (fin _ _ m H (I.tok _) (Ext.refl m H) rl)
        | int i =>
          simp only [shD] at ht
          split at ht
          · rename_i hi
            cases ht
            simp only [RD] at rd; subst rd
            obtain ⟨k, rfl⟩ := ru
            exact PySem.P.repr_of_int hi (fin _ _ m H (I.tok _) (Ext.refl m H) rl)
          · cases ht
        | str x =>
          simp only [shD] at ht
          split at ht
          · rename_i hi
            cases ht
            simp only [RD] at rd; subst rd
            obtain ⟨k, rfl⟩ := ru
            exact PySem.P.repr_of_str (fin _ _ m H (I.tok _) (Ext.refl m H) rl) hi
          · cases ht
        | tup ds =>
          simp only [shD] at ht
          obtain ⟨ts, ht2, rfl⟩ := Option.map_eq_some_iff.mp ht
          simp only [dep] at hz
          have hT := shs_ok rm o ds ts (deps ds) ht2 (Nat.le_refl _)
          have pu := purs_of ds ts ht2
          have rd0 := rd
          simp only [RD] at rd0
          obtain ⟨a, xs, rfl, _, _⟩ := rd0
          obtain rfl : u = Value.ref a := ru
          obtain ⟨oo, its, n, xs, ha, hc, _⟩ := seq_tup I rd
          exact call_repr_slot hu ⟨oo, ha, hc⟩ F.slot_tuple_repr (repr_tup rm (g := []) hT pu hg0 (hR _ (by omega)) rfl hz.1 (hgo.mono (by omega)) I rl rd fun k s' m' H' i' e' r' => ⟨_, _, rfl, fin k s' m' H' i' e' r'⟩)
        | lst ds =>
          simp only [shD] at ht
          obtain ⟨ts, ht2, rfl⟩ := Option.map_eq_some_iff.mp ht
          simp only [dep] at hz
          have hT := shs_ok rm o ds ts (deps ds) ht2 (Nat.le_refl _)
          have pu := purs_of ds ts ht2
          have rd0 := rd
          simp only [RD] at rd0
          obtain ⟨a, xs, rfl, _, _⟩ := rd0
          obtain rfl : u = Value.ref a := ru
          obtain ⟨oo, its, n, xs, ha, hc, hda, hvs, hrd⟩ := seq_lst I rd
          cases ds with
          | nil =>
            cases hT
            simp only [RDs] at hrd
            subst hrd
            cases hvs
            rw [listText_nil] at fin
            exact call_repr_slot hu ⟨oo, ha, hc⟩ F.slot_list_repr.toG (call_list_repr_empty ⟨oo, ha, hc⟩ ha hda ⟨_, _, rfl, fin _ _ m H (I.tok _) (Ext.refl m H) rl⟩)
          | cons d1 dr =>
            exact call_repr_slot hu ⟨oo, ha, hc⟩ F.slot_list_repr.toG (repr_list rm (g := []) hT (fun pins σ s m H I r => seq_lst I r) (by simp only [pur]; exact pu) (by simp only [dep]) (by simp) hg0 (hR _ (by omega)) rfl hz.1 (hgo.mono (by simp only [dep]; omega)) I rl rd fun k s' m' H' i' e' r' => ⟨_, _, rfl, fin k s' m' H' i' e' r'⟩)
        | scr ds =>
          simp only [shD] at ht
          obtain ⟨ts, ht2, rfl⟩ := Option.map_eq_some_iff.mp ht
          simp only [dep] at hz
          have hT := shs_ok rm o ds ts (deps ds) ht2 (Nat.le_refl _)
          have pu := purs_of ds ts ht2
          have rd0 := rd
          simp only [RD] at rd0
          obtain ⟨a, xs, rfl, _, _⟩ := rd0
          obtain rfl : u = Value.ref a := ru
          obtain ⟨oo, its, n, xs, ha, hc, hda, hvs, hrd⟩ := seq_scr I rd
          cases ds with
          | nil =>
            cases hT
            simp only [RDs] at hrd
            subst hrd
            cases hvs
            rw [listText_nil] at fin
            exact call_repr_slot hu ⟨oo, ha, hc⟩ F.slot_list_repr.toG (call_list_repr_empty ⟨oo, ha, hc⟩ ha hda ⟨_, _, rfl, fin _ _ m H (I.tok _) (Ext.refl m H) rl⟩)
          | cons d1 dr =>
            exact call_repr_slot hu ⟨oo, ha, hc⟩ F.slot_list_repr.toG (repr_list rm (g := []) hT (fun pins σ s m H I r => seq_scr I r) (by simp only [pur]; exact pu) (by simp only [dep]) (by simp) hg0 (hR _ (by omega)) rfl hz.1 (hgo.mono (by simp only [dep]; omega)) I rl rd fun k s' m' H' i' e' r' => ⟨_, _, rfl, fin k s' m' H' i' e' r'⟩)
        | dct kvs =>
          simp only [shD] at ht
          split at ht
          · rename_i hk
            cases ht
            have : kvs = [] := by simpa using hk
            subst this
            have rd0 := rd
            simp only [RD] at rd0
            obtain ⟨a, ys, rfl, _⟩ := rd0
            obtain rfl : u = Value.ref a := ru
            obtain ⟨oo, n, ha, hc, hd, hs⟩ := dct_obj I rd
            have key := call_dict_reprK (prog := X.prog) (w := X.w) (as := []) (h₀ := s.heap) (d := 0) (ps := []) (A := X.A.in1) (g := []) (E := X.xe) (s := s) (Q := fun r s₁ => ∃ x t, r = .str x t ∧ EP X pins σ Q r s₁) ha hc hd hs (by simp) .nil hg0 (fun b _ => Clear.nil b)
              (by have := rm.un (hR 0 (by omega)); omega) (fun _ _ e => e) (fun h' u tk kp => by
                rw [dictText_nil]
                exact ⟨_, _, rfl, fin u _ m H (I.kept kp) (Ext.refl m H) rl⟩) (by rw [dictText_nil]; exact hz.1)
            exact call_repr_slot hu ⟨oo, ha, hc⟩ F.slot_dict_repr key
          · cases ht
        | ins c fs =>
          simp only [shD] at ht
          obtain ⟨a, C, f, ox, od, rfl, J, hs, hfn, hw⟩ := o h c fs t ht X.A.in1 pins σ s m H _ _ (fun v s' => (∃ x u, v = .str x u) ∧ EP X pins σ Q v s') (rm.mono (hR 0 (by omega)) (by omega)) rfl I rl rd ru fun k s' m' H' i' e' r' => ⟨⟨_, _, rfl⟩, fin k s' m' H' i' e' r'⟩
          refine Calls.call_function_entry F.kind_repr F.plain_repr F.entry_repr (F.args_repr1 _) ?_
          unfold Builtin.«repr»
          refine wpAny_bind (m := oneArg "repr" _) (wpAny_pure ?_)
          refine wpAny_bind (m := cRoomFor _ _) (wpAny_cRoomFor (by show X.A.units + 1 < cLine; exact hu) ?_)
          refine wpAny_bind (wpAny_bind (J.type.here ((PySem.W.looks_findIn I.kIn hs).here ?_)))
          simp only [Option.isNone_some, Bool.false_eq_true, if_false]
          refine wpAny_bind (m := callSpecialIfBound? (.ref a) (Str.ofString "__repr__") _) (PySem.W.ifBound_K I.kIn J hs hfn (wpAny_mono hw (fun r s' z => ?_) fun _ _ y => y))
          obtain ⟨⟨x, k, rfl⟩, z⟩ := z
          refine wpAny_bind (wpAny_isInstance (T := "str") (b := true) rfl isSubtype_str_str ?_)
          exact wpAny_pure ⟨_, rfl, z⟩
        | ref n => exact (hnr n rfl).elim
        | exn x c fs => simp only [shD] at ht; cases ht
      · exact po.elim
    · exact po.elim
  · exact po.elim
theorem call_reprO (o : OwnRT X j tb) (hr : RoomB True (j + 12) X.A) : CallR X (.builtin "repr") (rdA X.K X.mg (gReprO tb)) := call_reprR rms_cold (cap_cold o) hr.off (hr.gd trivial)
theorem rb_reprO {e : Expr} {es : List Expr} {p pos : Pos} {fa : SA} (o : OwnRT X j tb) (hr : RoomB True (j + 12) X.A) (hg : Gl X "repr") (hm : X.mg "repr" = none) (ha : RA X (e :: es) fa) (he : starEach (e :: es) X.env = (false, eval e X.env) :: starEach es X.env := by rfl) (hpl : (backTo pos (starEach es X.env)).any (·.1) = false := by rfl) :
    RE X (.Call (.Name "repr" p) (e :: es) [] pos) (sCallB (gReprO tb) fa) := re_callB (call_reprO o hr) rdA_ok hg hm (by decide +kernel) ha (by decide) (by decide) he hpl
end
/-! ### in a suite -/
/-- room in the suite that handles the exception of xi -/
def RoomXx (xi : XI) (k : Nat) (A : Around) : Prop := RoomXB False k A ∧ A.handled = some (.ref xi.a)
theorem rms_hot {xi : XI} : Rms (RoomXx xi) := by
  refine ⟨fun r => r.1.un, fun r h => ⟨r.1.mono h, r.2⟩, fun {k A} r => ⟨⟨?_, ?_, fun z => z.elim⟩, r.2⟩, fun {k A id rest} r hid => ⟨⟨?_, ?_, fun z => z.elim⟩, ?_⟩⟩
  · have := r.1.dp
    show A.depth + 3 * k + 5 < _
    omega
  · have := r.1.un
    show A.units + 1 + 16 * k + 200 < _
    omega
  · have := r.1.dp
    have e : (A.under (.builtin id ⟨rest, []⟩)).depth ≤ A.depth + 3 := by
      rcases hid with rfl | rfl | rfl <;> first | (show A.depth + _ ≤ _; decide) | simp [Around.under, Code.weight, Code.isCreation, Code.isGuard, Code.isCaller, Code.frames, Code.isFrame, guardIds]
    omega
  · have := r.1.un
    have e : (A.under (.builtin id ⟨rest, []⟩)).units ≤ A.units + 16 := by
      rcases hid with rfl | rfl | rfl <;> simp [Around.under, Code.cUnits, Code.frames, Code.isFrame]
    omega
  · rcases hid with rfl | rfl | rfl <;> first | exact r.2 | simp [Around.under, r.2]
structure OwnRX (X : Cx) (xi : XI) (j : Nat) (c : Str) (fs : Fs) : Prop where
  ex : ∃ (C f : Addr) (fd : FuncData) (ps : List Str) (gs : XI → Fs), fs = gs xi ∧ X.mg c = some (.ref C) ∧ PySem.W.findIn X.K (.ref C) "__repr__" = some (some (.ref f)) ∧ PySem.W.isFn X.K (.ref f) = true ∧ FnXB False X.prog X.w X.K X.mg X.base j f fd ps gs ∧ DBn X.K X.mg fd ps 1 [] (fun ds _ => ds) ∧ ps.length = 1
def OwnRXT (X : Cx) (xi : XI) (j : Nat) (t : Tbl) : Prop := ∀ p ∈ t, OwnRX X xi j p.1 p.2
theorem cap_hot {X : Cx} {xi : XI} {j : Nat} {tb : Tbl} (hp : PinX X xi) (o : OwnRXT X xi j tb) : Cap (RoomXx xi) X j tb := by
  intro h c fs t e A pins σ s m H v u Q hr hf I rl rd rv hQ
  unfold ownT at e
  split at e
  · rename_i f hlk
    split at e
    · rename_i t' h' hf'
      split at e
      · rename_i hh
        subst hh
        cases e
        obtain ⟨C, fa, fd, ps, gs, hgs, hC, hs, hfn, F, b, hn⟩ := (o (c, f) (PySem.mem_of_lookup hlk)).ex
        dsimp only at hgs hC
        have rd0 := rd
        simp only [RD] at rd
        obtain ⟨a, C', dx, ys, rfl, g, fH, hm, rf⟩ := rd
        rw [hC] at g; cases g
        obtain rfl : u = Value.ref a := rv
        obtain ⟨mA, J, _⟩ := ins_get I.hok fH
        obtain ⟨od, J, _⟩ := J.look
        refine ⟨a, C, fa, _, od, rfl, J, hs, hfn, ?_⟩
        have rds : RDs X.K X.mg m H [.ins c fs] [.ref a] := by
          simp only [RDs]
          exact ⟨_, _, rfl, rd0, rfl⟩
        have rvs : Vals [V.ref a] [Value.ref a] := .cons rfl .nil
        obtain ⟨g, gV, kb, kd⟩ := b.ex
        have r2 := kb.rel rvs (.nil : Vals [] [])
        obtain ⟨hhd, oe, hmem, hz, hff⟩ := hp
        have P1 := I.pin (xi.a, oe) (List.mem_append_left _ hmem)
        have hpin : L2H.PinOk X.stack H s (xi.a, oe) := ⟨P1.1, P1.2.1, fun hm => (List.mem_cons.mp (I.stkSub xi.a hm)).elim P1.2.2.1 P1.2.2.2.1, P1.2.2.2.2⟩
        have e0 : Env0 X.prog X.w X.K X.mg X.base A X.stack s H := by
          have e := I.env0
          exact ⟨by rw [hf]; exact e.frames, e.mod, e.bs, e.bsz, e.funs, e.frf, e.hok, e.bare⟩
        have rn : RDs X.K X.mg m H [] [] := by simp only [RDs]
        have sp : SpL X.K X.mg ps.length (gs xi) (gV [V.ref a] []) H (fun v H' => v = .str t ∧ ∃ m', Ext m H m' H' ∧ Rel X.K X.mg m' H' h') (fun _ _ _ => False) := ⟨m, [.ins c fs], h', by rw [hn]; rfl, rl, kd m H [.ins c fs] [.ref a] [] [] rfl rfl rds rn, by
          rw [← hgs, hf']
          exact fun m1 H1 v1 e1 r1 rd1 => by
            simp only [RD] at rd1
            exact ⟨rd1, m1, e1, r1⟩⟩
        refine wpAny_call (codeAny_mono (F.run A X.stack s H ⟨[.ref a], []⟩ (g [.ref a] []) (gV [V.ref a] []) _ _ (xi.a, oe) xi hr.1 ⟨hr.2, rfl, hz, hff⟩ hpin e0 (kb.to s [.ref a] [] I.kIn rfl rfl) r2 sp) fun r s' hq => ?_)
        cases r with
        | error er => obtain ⟨_, _, _, _, _, _, _, _, _, _, _, _, z⟩ := hq; exact z.elim
        | ok fl =>
          cases fl with
          | ret u =>
            obtain ⟨z, H1, I1, rz, ez, m1, e1, r1⟩ := I.after hq
            subst ez
            obtain ⟨k, rfl⟩ := rz
            exact hQ k s' m1 H1 I1 e1 r1
          | next => exact False.elim hq
          | brk => exact False.elim hq
          | cont => exact False.elim hq
      · cases e
    · cases e
  · cases e
theorem rb_reprX {X : Cx} {xi : XI} {j : Nat} {tb : Tbl} {e : Expr} {es : List Expr} {p pos : Pos} {fa : SA} (o : OwnRXT X xi j tb) (hp : PinX X xi) (hr : RoomX (j + 12) X.A) (hg : Gl X "repr") (hm : X.mg "repr" = none) (ha : RA X (e :: es) fa) (he : starEach (e :: es) X.env = (false, eval e X.env) :: starEach es X.env := by rfl) (hpl : (backTo pos (starEach es X.env)).any (·.1) = false := by rfl) :
    RE X (.Call (.Name "repr" p) (e :: es) [] pos) (sCallB (gReprO tb) fa) := re_callB (call_reprR rms_hot (cap_hot hp o) ⟨hr.off, hp.hd⟩ (hr.gd trivial)) rdA_ok hg hm (by decide +kernel) ha (by decide) (by decide) he hpl
end G

/-! G30: k in d -/
namespace G
open PySem PySem.Spec PyProof.Rows L2
def gInM (neg : Bool) : V2 := fun p q h => match asDct q h with
  | some kvs => match keyD p with
    | some k => .ok (.bl (if neg then !(valD kvs k).isSome else (valD kvs k).isSome)) h
    | none => .no
  | none => gIn neg p q h
def rInM (K : PySem.W.Frag) (neg : Bool) : R2 := fun x y H Q => (∃ a o, y = V.ref a ∧ DGet H a x o ∧ Q (.bl (if neg then !o.isSome else o.isSome)) H) ∨ rInU K neg x y H Q
theorem g_inM {K : PySem.W.Frag} {mg : Str → Option Value} {neg : Bool} : Op2 K mg (gInM neg) (rInM K neg) := by
  intro m H h p q x y Q Wx rl rp rq po
  unfold gInM at po
  split at po
  · rename_i kvs hk
    split at po
    · rename_i k hkk
      obtain ⟨a, xs, rfl, f, rk⟩ := asDct_ok rl rq hk
      have ek : x = kV k := keyD_ok rp hkk
      subst ek
      refine .inl ⟨a, valV xs k, rfl, DGet.k f, ?_⟩
      have e : (valD kvs k).isSome = (valV xs k).isSome := by
        cases hv : valD kvs k with
        | some d =>
          obtain ⟨w, hw, _⟩ := (valD_ok rk).1 d hv
          rw [hw]; rfl
        | none => rw [(valD_ok rk).2 hv]; rfl
      rw [← e]
      exact po.ok rl (by simp only [RD])
    · exact po.elim
  · exact .inr (g_in m H h p q x y Q Wx rl rp rq po)
section
variable {X : Cx} {pos : Pos} {a b : Expr} {fa fb : SE}
theorem op_inM (hr : Rm X.A) : OpR X (compareOp .In) (rInM X.K false) := by
  intro pins s σ H x y v u Q I rx ry z
  rcases z with ⟨a, o, rfl, g, q⟩ | z
  · obtain rfl : u = Value.ref a := ry
    exact d_in (by have := hr.un; omega) I g rx fun s3 I3 => ⟨.bl o.isSome, H, I3, rfl, q⟩
  · exact op_inU (hu65 hr) pins s σ H x y v u Q I rx ry z
theorem op_notInM (hr : Rm X.A) : OpR X (compareOp .NotIn) (rInM X.K true) := by
  intro pins s σ H x y v u Q I rx ry z
  rcases z with ⟨a, o, rfl, g, q⟩ | z
  · obtain rfl : u = Value.ref a := ry
    exact d_notIn (by have := hr.un; omega) I g rx fun s3 I3 => ⟨.bl (!o.isSome), H, I3, rfl, q⟩
  · exact op_notInU (hu65 hr) pins s σ H x y v u Q I rx ry z
theorem re_inM (hr : Rm X.A) (ha : RE X a fa) (hb : RE X b fb) (hm : behindInMarks .In b = false := by rfl) : RE X (.Compare a [.In] [b] pos) (sBin (gInM false) fa fb) := re_cmp (op_inM hr) g_inM ha hb hm
theorem re_notInM (hr : Rm X.A) (ha : RE X a fa) (hb : RE X b fb) (hm : behindInMarks .NotIn b = false := by rfl) : RE X (.Compare a [.NotIn] [b] pos) (sBin (gInM true) fa fb) := re_cmp (op_notInM hr) g_inM ha hb hm
theorem rt_inM (hr : Rm X.A) (ha : RE X a fa) (hb : RE X b fb) (hm : behindInMarks .In b = false := by rfl) : RT X (.Compare a [.In] [b] pos) (sTB (sBin (gInM false) fa fb)) := rt_cmp (op_inM hr) g_inM ha hb hm
theorem rt_notInM (hr : Rm X.A) (ha : RE X a fa) (hb : RE X b fb) (hm : behindInMarks .NotIn b = false := by rfl) : RT X (.Compare a [.NotIn] [b] pos) (sTB (sBin (gInM true) fa fb)) := rt_cmp (op_notInM hr) g_inM ha hb hm
end
end G

/-! G31: xs.index(x), xs.count(x) over data; - of a constant -/
namespace G
open PySem PySem.Spec PyProof.Rows L2
def gIndex : VM := fun d es h => match es with
  | [y] => match asLst d h with
    | some ds => match toPs ds, toPh y h with
      | some ps, some p => if SeqAt.shaped (.list ps) = true ∧ SeqAt.shaped p = true then match ps.findIdx? (fun z => PyData.eqv z p) with | some j => .ok (.int (j : Nat)) h | none => .no else .no
      | _, _ => .no
    | none => .no
  | _ => .no
def gCount : VM := fun d es h => match es with
  | [y] => match asLst d h with
    | some ds => match toPs ds, toPh y h with
      | some ps, some p => if SeqAt.shaped (.list ps) = true ∧ SeqAt.shaped p = true then .ok (.int (ps.countP (fun z => PyData.eqv z p) : Nat)) h else .no
      | _, _ => .no
    | none => .no
  | _ => .no
def rCountD (K : PySem.W.Frag) : V → List V → Hp → VK → Prop := fun x xs H Q => ∃ (a : Addr) (y : V) (d : PyData) (ds : List PyData), x = V.ref a ∧ xs = [y] ∧ Dp K H (V.ref a) (.list ds) ∧ Dp K H y d ∧
  SeqAt.shaped (.list ds) = true ∧ SeqAt.shaped d = true ∧ Q (.int (ds.countP (fun z => PyData.eqv z d) : Nat)) H
theorem mt_countD {X : Cx} (hu : X.A.units + 65 < cLine) : MtR X "list.count" (rCountD X.K) := by
  intro pins s σ H x xs v us Q I rx rxs h
  obtain ⟨a, y, d, ds, rfl, rfl, hl, hy, sl, sd, q⟩ := h
  cases rx
  obtain ⟨uy, rfl, ry⟩ := rxs.one
  obtain ⟨bs, r1⟩ := Dp.reads I d y uy hy ry
  have hxs : PyData.canLayAll0 ds = true := SeqAt.canLay_of_shaped sl
  have hroom : X.A.units + 1 + min (PyData.depthAll ds) d.depth < cLine := room_in_shaped sd hu
  cases hl with
  | lst hs ha =>
    obtain ⟨its, rv, ⟨⟨cls, dd, data, sls⟩, n, ho, hc, hdn, hdt⟩, hlen⟩ := I.list hs
    simp only at hc hdt
    subst hc hdt
    obtain ⟨as, h4⟩ := Dp.readsAll I ds _ its ha rv
    have hmap : its.map (SeqAt.readOf s.heap) = ds := SeqAt.readsAll_map ds its as hxs h4
    refine call_meets PySem.F.slot_list_count ⟨_, ho, rfl⟩ PySem.F.entry_list_count (PySem.F.args_list_count_2 _ _)
      (SeqAt.list_countAt a its.toArray n dd sls uy (fun u => PyData.eqv (SeqAt.readOf s.heap u) d)) ⟨ho, SeqAt.items_eqAt (vs := its.toArray) (show ReadsAll s.heap its.toArray.toList ds as from h4) r1 hxs (SeqAt.canLay_of_shaped sd) hroom, ?_⟩
    have e : its.toArray.toList.countP (fun u => PyData.eqv (SeqAt.readOf s.heap u) d) = ds.countP fun z => PyData.eqv z d := by
      rw [← hmap, List.countP_map]
      rfl
    rw [e]
    exact ⟨.int _, H, I.tok _, ⟨_, rfl⟩, q⟩
theorem g_index {K : PySem.W.Frag} {mg : Str → Option Value} : MtOk K mg gIndex (rIndexD K) := by
  intro m H h d x ds vs Q Wx rl r rs po
  unfold gIndex at po
  split at po
  · rename_i y
    obtain ⟨v, rfl, rv⟩ := rs.one
    split at po
    · rename_i es he
      split at po
      · rename_i ps p h1 h2
        split at po
        · rename_i sh
          split at po
          · rename_i j hj
            obtain ⟨a, xs, rfl, f, rx⟩ := asLst_ok rl r he
            rw [List.findIdx?_eq_some_iff_getElem] at hj
            obtain ⟨hl, hp, hn⟩ := hj
            refine ⟨a, v, p, ps, j, ps[j], rfl, rfl, .lst (SqL.of f) (toPs_ok _ _ _ rx h1), toPh_ok rl rv h2, sh.1, sh.2, List.getElem?_eq_getElem hl, hp, fun i z hi hz => ?_, po.ok rl (by simp only [RD])⟩
            obtain ⟨hil, rfl⟩ := List.getElem?_eq_some_iff.mp hz
            simpa using hn i hi
          · exact po.elim
        · exact po.elim
      · exact po.elim
    · exact po.elim
  · exact po.elim
theorem g_count {K : PySem.W.Frag} {mg : Str → Option Value} : MtOk K mg gCount (rCountD K) := by
  intro m H h d x ds vs Q Wx rl r rs po
  unfold gCount at po
  split at po
  · rename_i y
    obtain ⟨v, rfl, rv⟩ := rs.one
    split at po
    · rename_i es he
      split at po
      · rename_i ps p h1 h2
        split at po
        · rename_i sh
          obtain ⟨a, xs, rfl, f, rx⟩ := asLst_ok rl r he
          exact ⟨a, v, p, ps, rfl, rfl, .lst (SqL.of f) (toPs_ok _ _ _ rx h1), toPh_ok rl rv h2, sh.1, sh.2, po.ok rl (by simp only [RD])⟩
        · exact po.elim
      · exact po.elim
    · exact po.elim
  · exact po.elim
section
variable {X : Cx} {o e : Expr} {fo : SE} {fa : SA} {apos cpos : Pos}
theorem rm_index (hr : Rm X.A) (ho : RE X o fo) (ha : RA X [e] fa) (hbase : attributeBase o "index" X.env (eval o X.env) = eval o X.env := by rfl)
    (hfew : ((backTo cpos (starEach [e] X.env)).all (fun x => !x.1) && (backToKw cpos (keywordEach [] X.env)).all (fun x => x.1.isSome) && decide (([e] : List Expr).length + ([] : List Keyword).length + (if ([] : List Keyword).isEmpty then 0 else 1) < 30)) = true := by rfl)
    (hline : (apos.endLine == cpos.line) = true := by rfl) (hs : starEach [e] X.env = (false, eval e X.env) :: starEach [] X.env := by rfl) : RE X (.Call (.Attribute o "index" apos) [e] [] cpos) (sBM "list" gIndex fo fa) :=
  re_bm PySem.F.plainAttrs_list PySem.F.slot_list_index PySem.F.type_list_index (mt_indexD (hu65 hr)) g_index ho ha hbase hfew hline hs rfl
theorem rm_count (hr : Rm X.A) (ho : RE X o fo) (ha : RA X [e] fa) (hbase : attributeBase o "count" X.env (eval o X.env) = eval o X.env := by rfl)
    (hfew : ((backTo cpos (starEach [e] X.env)).all (fun x => !x.1) && (backToKw cpos (keywordEach [] X.env)).all (fun x => x.1.isSome) && decide (([e] : List Expr).length + ([] : List Keyword).length + (if ([] : List Keyword).isEmpty then 0 else 1) < 30)) = true := by rfl)
    (hline : (apos.endLine == cpos.line) = true := by rfl) (hs : starEach [e] X.env = (false, eval e X.env) :: starEach [] X.env := by rfl) : RE X (.Call (.Attribute o "count" apos) [e] [] cpos) (sBM "list" gCount fo fa) :=
  re_bm PySem.F.plainAttrs_list PySem.F.slot_list_count PySem.F.type_list_count (mt_countD (hu65 hr)) g_count ho ha hbase hfew hline hs rfl
theorem re_negc {i : Int} {j p1 p2} : RE X (.UnaryOp .USub (.Constant (.int i) j p1) p2) (sC (.int (-i))) :=
  re_c (pe_imp (pe_un un_neg pe_int) fun σ H Q q => ⟨i, rfl, q⟩) fun _ _ => by simp only [RD]
end
end G

/-! G32: ==, !=, in of anything: data, and instances of classes with an __eq__ of their own, at any depth. -/
namespace G
open PySem PySem.Spec PyProof.Rows L2
open PySem.SeqAt PySem.AutoSeq1 PySem.MeetsSeq PySem.MeetsSeq2 PySem.MeetsSeq3 PySem.SeqRoads2
section
variable {prog : Program} {w : World} {A : Around} {R : Result → Shared → Prop}
/-- two lists that stand there, N items each -/
def Two (l b : Addr) (N : Nat) (s : Shared) (items items2 : Array Value) : Prop := ∃ (n n2 : Nat) (dd dd2 : Option Addr) (sl sl2 : Array (Option Value)), s.heap.get? l = some { cls := .type "list", dict := dd, data := .seq items n, slots := sl } ∧ s.heap.get? b = some { cls := .type "list", dict := dd2, data := .seq items2 n2, slots := sl2 } ∧ items.size = N ∧ items2.size = N
/-- a turn: the i-th two are equal, or it ends there -/
def TurnJ (prog : Program) (w : World) (A : Around) (E : Value → Shared → Prop) (I : Nat → Shared → Prop) (F : Shared → Prop) (i : Nat) (y x : Value) (s : Shared) : Prop :=
  wpAny (model prog w) A.in1 (eqBool y x) (fun r s' => (r = true ∧ I (i + 1) s') ∨ (r = false ∧ F s')) E s
def opN (ne : Bool) : Int := if ne then 3 else 2
theorem eq_loopJ (ne : Bool) (l b : Addr) (N : Nat) (I : Nat → Shared → Prop) (F : Shared → Prop)
    (hl : ∀ i s, i ≤ N → I i s → ∃ items items2, Two l b N s items items2 ∧ ∀ (h1 : i < items.size) (h2 : i < items2.size), TurnJ prog w A (fun e s' => R (.error e) s') I F i items[i] items2[i] s)
    (hF : ∀ s, F s → ∃ items items2, Two l b N s items items2)
    (fin : ∀ s, I N s → R (.ok (.ret (.bool (!ne)))) s) (finF : ∀ s, F s → R (.ok (.ret (.bool ne))) s) (k : Nat) :
    ∀ i : Nat, N - i = k → i ≤ N → ∀ s, I i s →
      wpAny (model prog w) A.in1 (Builtin.«list.__eq__.loop» ⟨[.ref l, .ref b, rawInt i, rawInt (opN ne)], []⟩) (GQ.FinOf prog w A R) (fun e s' => R (.error e) s') s := by
  induction k with
  | zero =>
    intro i hk hi s h
    obtain ⟨items, items2, ⟨n, n2, dd, dd2, sl, sl2, hl1, hb1, hs1, hs2⟩, _⟩ := hl _ _ hi h
    have hi' : i = N := by omega
    have hR : R (.ok (.ret (.bool (!ne)))) s := fin s (hi' ▸ h)
    obtain ⟨hp, g, d, tk, os⟩ := s
    have hi1 : items[((i : Nat) : Int).toNat]? = none := by simp; omega
    have hi2 : items2[((i : Nat) : Int).toNat]? = none := by simp; omega
    cases ne with
    | false =>
      unfold opN
      simp only [Bool.false_eq_true, if_false]
      wp_walk using wpAny_loadPart' hl1, wpAny_loadPart' hb1
      rw [hi1, hi2]
      wp_walk using wpAny_loadPart' hl1, wpAny_loadPart' hb1
      show R (.ok (.ret (.bool (items.size == items2.size)))) _
      rw [hs1, hs2]
      simpa using hR
    | true =>
      unfold opN
      simp only [if_true]
      wp_walk using wpAny_loadPart' hl1, wpAny_loadPart' hb1
      rw [hi1, hi2]
      wp_walk using wpAny_loadPart' hl1, wpAny_loadPart' hb1
      show R (.ok (.ret (.bool (items.size != items2.size)))) _
      rw [hs1, hs2]
      simpa using hR
  | succ k ih =>
    intro i hk hi s h
    obtain ⟨items, items2, ⟨n, n2, dd, dd2, sl, sl2, hl1, hb1, hs1, hs2⟩, turn⟩ := hl _ _ hi h
    have hlt : i < items.size := by omega
    have hlt2 : i < items2.size := by omega
    have ht := turn hlt hlt2
    have hi1 : items[((i : Nat) : Int).toNat]? = some items[i] := by simp [hlt]
    have hi2 : items2[((i : Nat) : Int).toNat]? = some items2[i] := by simp [hlt2]
    have hc : ((i : Int) + 1) = ((i + 1 : Nat) : Int) := by omega
    obtain ⟨hp, g, d, tk, os⟩ := s
    cases ne with
    | false =>
      unfold opN at ih ⊢
      simp only [Bool.false_eq_true, if_false] at ih ⊢
      wp_walk using wpAny_loadPart' hl1, wpAny_loadPart' hb1
      rw [hi1, hi2]
      refine wpAny_bind (wpAny_mono ht (fun r s2 h2 => ?_) fun _ _ x => x)
      rcases h2 with ⟨rfl, h2⟩ | ⟨rfl, h2⟩
      · have hrec := ih (i + 1) (by omega) (by omega) s2 h2
        obtain ⟨hp2, g2, d2, tk2, os2⟩ := s2
        wp_walk
        rw [hc]
        exact ⟨plainId_quiet plain_eq_loop _, codeAny_builtin entry_eq_loop (by
          rw [Around.under_plainId plain_eq_loop _]
          exact hrec)⟩
      · obtain ⟨it1, it2, m1, m2, dd', dd2', sl', sl2', hl2, hb2, hs3, hs4⟩ := hF s2 h2
        have hR := finF s2 h2
        have hj1 : it1[((i : Nat) : Int).toNat]? = some (it1[i]'(by omega)) := by simp [show i < it1.size by omega]
        have hj2 : it2[((i : Nat) : Int).toNat]? = some (it2[i]'(by omega)) := by simp [show i < it2.size by omega]
        obtain ⟨hp2, g2, d2, tk2, os2⟩ := s2
        wp_walk using wpAny_loadPart' hl2, wpAny_loadPart' hb2
        rw [hj1, hj2]
        wp_walk
        exact hR
    | true =>
      unfold opN at ih ⊢
      simp only [if_true] at ih ⊢
      wp_walk using wpAny_loadPart' hl1, wpAny_loadPart' hb1
      rw [hi1, hi2]
      refine wpAny_bind (wpAny_mono ht (fun r s2 h2 => ?_) fun _ _ x => x)
      rcases h2 with ⟨rfl, h2⟩ | ⟨rfl, h2⟩
      · have hrec := ih (i + 1) (by omega) (by omega) s2 h2
        obtain ⟨hp2, g2, d2, tk2, os2⟩ := s2
        wp_walk
        rw [hc]
        exact ⟨plainId_quiet plain_eq_loop _, codeAny_builtin entry_eq_loop (by
          rw [Around.under_plainId plain_eq_loop _]
          exact hrec)⟩
      · obtain ⟨it1, it2, m1, m2, dd', dd2', sl', sl2', hl2, hb2, hs3, hs4⟩ := hF s2 h2
        have hR := finF s2 h2
        have hj1 : it1[((i : Nat) : Int).toNat]? = some (it1[i]'(by omega)) := by simp [show i < it1.size by omega]
        have hj2 : it2[((i : Nat) : Int).toNat]? = some (it2[i]'(by omega)) := by simp [show i < it2.size by omega]
        obtain ⟨hp2, g2, d2, tk2, os2⟩ := s2
        wp_walk using wpAny_loadPart' hl2, wpAny_loadPart' hb2
        rw [hj1, hj2]
        wp_walk
        exact hR
theorem list_eqJ (ne : Bool) (l b : Addr) (N : Nat) (I : Nat → Shared → Prop) (F : Shared → Prop)
    (hl : ∀ i s, i ≤ N → I i s → ∃ items items2, Two l b N s items items2 ∧ ∀ (h1 : i < items.size) (h2 : i < items2.size), TurnJ prog w A (fun e s' => R (.error e) s') I F i items[i] items2[i] s)
    (hF : ∀ s, F s → ∃ items items2, Two l b N s items items2)
    (fin : ∀ s, I N s → R (.ok (.ret (.bool (!ne)))) s) (finF : ∀ s, F s → R (.ok (.ret (.bool ne))) s) {s : Shared} (h : I 0 s) :
    wpAny (model prog w) A.in1 ((if ne then Builtin.«list.__ne__» else Builtin.«list.__eq__») ⟨[.ref l, .ref b], []⟩) (GQ.FinOf prog w A R) (fun e s' => R (.error e) s') s := by
  obtain ⟨items, items2, ⟨n, n2, dd, dd2, sl, sl2, hl1, hb1, hs1, hs2⟩, _⟩ := hl _ _ (Nat.zero_le _) h
  have hrec := eq_loopJ (A := A) (R := R) ne l b N I F hl hF fin finF _ 0 rfl (Nat.zero_le _) s h
  obtain ⟨hp, g, d, tk, os⟩ := s
  have f3 := AutoSeq1.sub_list_list
  have hne : ¬ (items.size != items2.size) = true := by simp [hs1, hs2]
  cases ne with
  | false =>
    simp only [Bool.false_eq_true, if_false]
    wp_walk using wpAny_loadPart' hl1, wpAny_loadPart' hb1
    exact ⟨plainId_quiet plain_eq_loop _, codeAny_builtin entry_eq_loop (by
      rw [Around.under_plainId plain_eq_loop _]
      exact hrec)⟩
  | true =>
    simp only [if_true]
    wp_walk using wpAny_loadPart' hl1, wpAny_loadPart' hb1
    exact ⟨plainId_quiet plain_eq_loop _, codeAny_builtin entry_eq_loop (by
      rw [Around.under_plainId plain_eq_loop _]
      exact hrec)⟩
theorem tuple_eqJ (ne : Bool) (l b : Addr) (items items2 : Array Value) (n n2 : Nat) (dd dd2 : Option Addr) (sl sl2 : Array (Option Value)) (I : Nat → Shared → Prop) (F : Shared → Prop)
    (turn : ∀ i (h1 : i < items.size) (h2 : i < items2.size) s, I i s → TurnJ prog w A (fun e s' => R (.error e) s') I F i items[i] items2[i] s)
    (fin : ∀ s, I (min items.size items2.size) s → R (.ok (.ret (.bool ((items.size == items2.size) != ne)))) s) (finF : ∀ s, F s → R (.ok (.ret (.bool ne))) s) {s : Shared} (hl1 : s.heap.get? l = some { cls := .type "tuple", dict := dd, data := .seq items n, slots := sl }) (hb1 : s.heap.get? b = some { cls := .type "tuple", dict := dd2, data := .seq items2 n2, slots := sl2 }) (h : I 0 s) :
    wpAny (model prog w) A.in1 ((if ne then Builtin.«tuple.__ne__» else Builtin.«tuple.__eq__») ⟨[.ref l, .ref b], []⟩) (GQ.FinOf prog w A R) (fun e s' => R (.error e) s') s := by
  have f2 := AutoSeq1.sub_tuple_tuple
  have hZ : (items.toList.zip items2.toList).length = min items.size items2.size := by simp
  have h0 := h
  have tu : ∀ (y x : Value) rest i, (y, x) :: rest = (items.toList.zip items2.toList).drop i → ∃ (h1 : i < items.size) (h2 : i < items2.size), y = items[i] ∧ x = items2[i] ∧ rest = (items.toList.zip items2.toList).drop (i + 1) := by
    intro y x rest i hz
    have hlt : i < (items.toList.zip items2.toList).length := by
      rcases Nat.lt_or_ge i (items.toList.zip items2.toList).length with h' | h'
      · exact h'
      · rw [List.drop_of_length_le h'] at hz; cases hz
    have h1 : i < items.size := by omega
    have h2 : i < items2.size := by omega
    rw [List.drop_eq_getElem_cons hlt] at hz
    injection hz with hyx hrest
    exact ⟨h1, h2, by have := congrArg Prod.fst hyx; simpa using this, by have := congrArg Prod.snd hyx; simpa using this, hrest⟩
  have en : ∀ i, [] = (items.toList.zip items2.toList).drop i → min items.size items2.size ≤ i := by
    intro i hz
    rcases Nat.lt_or_ge i (items.toList.zip items2.toList).length with h' | h'
    · rw [List.drop_eq_getElem_cons h'] at hz; cases hz
    · exact hZ ▸ h'
  obtain ⟨hp, g, d, tk, os⟩ := s
  cases ne with
  | false =>
    simp only [Bool.false_eq_true, if_false]
    wp_walk using wpAny_loadPart' hl1, wpAny_loadPart' hb1, wpAny_forIn_list _ (fun rest b s' => b.1 = none ∧ ∃ i, rest = (items.toList.zip items2.toList).drop i ∧ i ≤ min items.size items2.size ∧ I i s') _
    case turn =>
      rintro ⟨y, x⟩ rest b s' ⟨hb', i, hz, hi, hI⟩
      obtain ⟨h1, h2, rfl, rfl, hrest⟩ := tu _ _ _ _ hz
      refine wpAny_bind (wpAny_mono (turn i h1 h2 s' hI) (fun r s2 q2 => ?_) fun _ _ x => x)
      rcases q2 with ⟨rfl, q2⟩ | ⟨rfl, q2⟩
      · wp_walk
        exact ⟨rfl, i + 1, hrest, by omega, q2⟩
      · have hR := finF s2 q2
        wp_walk
        exact hR
    case fin =>
      rintro ⟨b1, b2⟩ s' ⟨hb', i, hz, hi, hI⟩
      simp only at hb'
      subst hb'
      have hge := en i hz
      have hi' : i = min items.size items2.size := by omega
      have hR := fin s' (hi' ▸ hI)
      wp_walk
      simpa [Builtin.Tuple.tupleCompareSizes] using hR
    case h =>
      exact ⟨rfl, 0, rfl, Nat.zero_le _, h0⟩
  | true =>
    simp only [if_true]
    wp_walk using wpAny_loadPart' hl1, wpAny_loadPart' hb1, wpAny_forIn_list _ (fun rest b s' => b.1 = none ∧ ∃ i, rest = (items.toList.zip items2.toList).drop i ∧ i ≤ min items.size items2.size ∧ I i s') _
    case turn =>
      rintro ⟨y, x⟩ rest b s' ⟨hb', i, hz, hi, hI⟩
      obtain ⟨h1, h2, rfl, rfl, hrest⟩ := tu _ _ _ _ hz
      refine wpAny_bind (wpAny_mono (turn i h1 h2 s' hI) (fun r s2 q2 => ?_) fun _ _ x => x)
      rcases q2 with ⟨rfl, q2⟩ | ⟨rfl, q2⟩
      · wp_walk
        exact ⟨rfl, i + 1, hrest, by omega, q2⟩
      · have hR := finF s2 q2
        wp_walk
        exact hR
    case fin =>
      rintro ⟨b1, b2⟩ s' ⟨hb', i, hz, hi, hI⟩
      simp only at hb'
      subst hb'
      have hge := en i hz
      have hi' : i = min items.size items2.size := by omega
      have hR := fin s' (hi' ▸ hI)
      wp_walk
      simpa [Builtin.Tuple.tupleCompareSizes, bne] using hR
    case h =>
      exact ⟨rfl, 0, rfl, Nat.zero_le _, h0⟩
/-- x in a list: I i: none of the first i is it -/
theorem in_loopJ (l : Addr) (x : Value) (N : Nat) (I : Nat → Shared → Prop) (T : Shared → Prop)
    (hl : ∀ i s, i ≤ N → I i s → ∃ (items : Array Value) (n : Nat) (dd : Option Addr) (sl : Array (Option Value)), s.heap.get? l = some { cls := .type "list", dict := dd, data := .seq items n, slots := sl } ∧ items.size = N ∧ ∀ (h1 : i < items.size), wpAny (model prog w) A.in1 (eqBool items[i] x) (fun r s' => (r = false ∧ I (i + 1) s') ∨ (r = true ∧ T s')) (fun e s' => R (.error e) s') s)
    (fin : ∀ s, I N s → R (.ok (.ret (.bool false))) s) (finT : ∀ s, T s → R (.ok (.ret (.bool true))) s) (k : Nat) :
    ∀ i : Nat, N - i = k → i ≤ N → ∀ s, I i s →
      wpAny (model prog w) A.in1 (Builtin.«list.__contains__.loop» ⟨[.ref l, x, rawInt i], []⟩) (GQ.FinOf prog w A R) (fun e s' => R (.error e) s') s := by
  induction k with
  | zero =>
    intro i hk hi s h
    obtain ⟨items, n, dd, sl, hl1, hs1, _⟩ := hl _ _ hi h
    have hi' : i = N := by omega
    have hR := fin s (hi' ▸ h)
    obtain ⟨hp, g, d, tk, os⟩ := s
    wp_walk using wpAny_loadPart' hl1
    have hi1 : items[((i : Nat) : Int).toNat]? = none := by simp; omega
    rw [hi1]
    wp_walk
    exact hR
  | succ k ih =>
    intro i hk hi s h
    obtain ⟨items, n, dd, sl, hl1, hs1, turn⟩ := hl _ _ hi h
    have hlt : i < items.size := by omega
    have ht := turn hlt
    have hi1 : items[((i : Nat) : Int).toNat]? = some items[i] := by simp [hlt]
    have hc : ((i : Int) + 1) = ((i + 1 : Nat) : Int) := by omega
    obtain ⟨hp, g, d, tk, os⟩ := s
    wp_walk using wpAny_loadPart' hl1
    rw [hi1]
    refine wpAny_bind (wpAny_mono ht (fun r s2 h2 => ?_) fun _ _ x => x)
    rcases h2 with ⟨rfl, h2⟩ | ⟨rfl, h2⟩
    · have hrec := ih (i + 1) (by omega) (by omega) s2 h2
      obtain ⟨hp2, g2, d2, tk2, os2⟩ := s2
      wp_walk
      rw [hc]
      exact ⟨plainId_quiet plain_contains_loop _, codeAny_builtin entry_contains_loop (by
        rw [Around.under_plainId plain_contains_loop _]
        exact hrec)⟩
    · have hR := finT s2 h2
      wp_walk
      exact hR
theorem list_inJ (l : Addr) (x : Value) (N : Nat) (I : Nat → Shared → Prop) (T : Shared → Prop)
    (hl : ∀ i s, i ≤ N → I i s → ∃ (items : Array Value) (n : Nat) (dd : Option Addr) (sl : Array (Option Value)), s.heap.get? l = some { cls := .type "list", dict := dd, data := .seq items n, slots := sl } ∧ items.size = N ∧ ∀ (h1 : i < items.size), wpAny (model prog w) A.in1 (eqBool items[i] x) (fun r s' => (r = false ∧ I (i + 1) s') ∨ (r = true ∧ T s')) (fun e s' => R (.error e) s') s)
    (fin : ∀ s, I N s → R (.ok (.ret (.bool false))) s) (finT : ∀ s, T s → R (.ok (.ret (.bool true))) s) {s : Shared} (h : I 0 s) :
    wpAny (model prog w) A.in1 (Builtin.«list.__contains__» ⟨[.ref l, x], []⟩) (GQ.FinOf prog w A R) (fun e s' => R (.error e) s') s := by
  have hrec := in_loopJ (A := A) (R := R) l x N I T hl fin finT _ 0 rfl (Nat.zero_le _) s h
  obtain ⟨items, n, dd, sl, hl1, hs1, _⟩ := hl _ _ (Nat.zero_le _) h
  obtain ⟨hp, g, d, tk, os⟩ := s
  wp_walk using wpAny_loadPart' hl1
  exact ⟨plainId_quiet plain_contains_loop _, codeAny_builtin entry_contains_loop (by
    rw [Around.under_plainId plain_contains_loop _]
    exact hrec)⟩
theorem tuple_inJ (l : Addr) (items : Array Value) (n : Nat) (dd : Option Addr) (sl : Array (Option Value)) (x : Value) (I : Nat → Shared → Prop) (T : Shared → Prop)
    (turn : ∀ i (h1 : i < items.size) s, I i s → wpAny (model prog w) A.in1 (eqBool items[i] x) (fun r s' => (r = false ∧ I (i + 1) s') ∨ (r = true ∧ T s')) (fun e s' => R (.error e) s') s)
    (fin : ∀ s, I items.size s → R (.ok (.ret (.bool false))) s) (finT : ∀ s, T s → R (.ok (.ret (.bool true))) s) {s : Shared} (hl1 : s.heap.get? l = some { cls := .type "tuple", dict := dd, data := .seq items n, slots := sl }) (h : I 0 s) :
    wpAny (model prog w) A.in1 (Builtin.«tuple.__contains__» ⟨[.ref l, x], []⟩) (GQ.FinOf prog w A R) (fun e s' => R (.error e) s') s := by
  have h0 := h
  have tu : ∀ (y : Value) rest i, y :: rest = items.toList.drop i → ∃ (h1 : i < items.size), y = items[i] ∧ rest = items.toList.drop (i + 1) := by
    intro y rest i hz
    have hlt : i < items.toList.length := by
      rcases Nat.lt_or_ge i items.toList.length with h' | h'
      · exact h'
      · rw [List.drop_of_length_le h'] at hz; cases hz
    rw [List.drop_eq_getElem_cons hlt] at hz
    injection hz with hyx hrest
    exact ⟨by simpa using hlt, by simpa using hyx, hrest⟩
  obtain ⟨hp, g, d, tk, os⟩ := s
  wp_walk using wpAny_loadPart' hl1, wpAny_forIn_array _ (fun rest b s' => b.1 = none ∧ ∃ i, rest = items.toList.drop i ∧ i ≤ items.size ∧ I i s') _
  case turn =>
    rintro y rest b s' ⟨hb', i, hz, hi, hI⟩
    obtain ⟨h1, rfl, hrest⟩ := tu _ _ _ hz
    refine wpAny_bind (wpAny_mono (turn i h1 s' hI) (fun r s2 q2 => ?_) fun _ _ x => x)
    rcases q2 with ⟨rfl, q2⟩ | ⟨rfl, q2⟩
    · wp_walk
      exact ⟨rfl, i + 1, hrest, by omega, q2⟩
    · have hR := finT s2 q2
      wp_walk
      exact hR
  case fin =>
    rintro ⟨b1, b2⟩ s' ⟨hb', i, hz, hi, hI⟩
    simp only at hb'
    subst hb'
    have hi' : i = items.size := by
      rcases Nat.lt_or_ge i items.toList.length with h' | h'
      · rw [List.drop_eq_getElem_cons h'] at hz; cases hz
      · have : items.toList.length = items.size := Array.length_toList
        omega
    have hR := fin s' (hi' ▸ hI)
    wp_walk
    exact hR
  case h =>
    exact ⟨rfl, 0, rfl, Nat.zero_le _, h0⟩
end
end G

/-! G33: eqA: what == tells of two things. -/
namespace G
open PySem PySem.Spec PyProof.Rows L2
mutual
/-- surely not one thing -/
def dst : D → D → Bool
  | .non, q => match q with
    | .non => false | .ref _ => false | .exn _ _ _ => false | _ => true
  | .bl b, q => match q with
    | .bl c => b != c | .ref _ => false | .exn _ _ _ => false | _ => true
  | .int i, q => match q with
    | .int j => i != j | .ref _ => false | .exn _ _ _ => false | _ => true
  | .str x, q => match q with
    | .str y => decide (x ≠ y) | .ref _ => false | .exn _ _ _ => false | _ => true
  | .tup ds, q => match q with
    | .tup es => dsts ds es | .ref _ => false | .exn _ _ _ => false | _ => true
  | .lst ds, q => match q with
    | .lst es => dsts ds es | .scr es => dsts ds es | .ref _ => false | .exn _ _ _ => false | _ => true
  | .scr ds, q => match q with
    | .lst es => dsts ds es | .scr es => dsts ds es | .ref _ => false | .exn _ _ _ => false | _ => true
  | .dct _, q => match q with
    | .dct _ => false | .ref _ => false | .exn _ _ _ => false | _ => true
  | .ins _ fs, q => match q with
    | .ins _ gs => dstf fs gs | .ref _ => false | .exn _ _ _ => false | _ => true
  | .ref _, _ => false
  | .exn _ _ _, _ => false
def dsts : List D → List D → Bool
  | [], es => !es.isEmpty
  | d :: r, es => match es with
    | [] => true
    | e :: t => dst d e || dsts r t
def dstf : List (Str × D) → List (Str × D) → Bool
  | [], es => !es.isEmpty
  | (k, d) :: r, es => match es with
    | [] => true
    | (k', e) :: t => decide (k ≠ k') || (dst d e || dstf r t)
end
/-- what the class's own __eq__ tells -/
noncomputable def ownE (tb : Tbl) (h : Hs) (c : Str) (p q : D) : Option Bool := open Classical in match tb.lookup c with
  | some f => match f [p, q] h with
    | .ok (.bl b) h' => if h' = h then some b else none
    | _ => none
  | none => none
def datE (p q : D) : Option Bool := match toP p, toP q with
  | some a, some b => if SeqAt.shaped a = true ∧ SeqAt.shaped b = true then some (PyData.eqv a b) else none
  | _, _ => none
def okD (cs : List Str) (h : Hs) (q : D) : Bool := match tyD q h with
  | some t => okTy cs t
  | none => false
/-- data on the left -/
noncomputable def datO (cs : List Str) (tb : Tbl) (h : Hs) (p q : D) : Option Bool := match q with
  | .ins c fs => if okD cs h p = true then ownE tb h c (.ins c fs) p else none
  | q => datE p q
mutual
noncomputable def eqA (cs : List Str) (tb : Tbl) (h : Hs) : D → D → Option Bool
  | .ins c fs, q => if okD cs h q = true then ownE tb h c (.ins c fs) q else none
  | .tup ds, q => match q with
    | .tup es => match datE (.tup ds) (.tup es) with
      | some b => some b
      | none => eqsA cs tb h ds es
    | q => datO cs tb h (.tup ds) q
  | .lst ds, q => match q with
    | .lst es => match datE (.lst ds) (.lst es) with
      | some b => some b
      | none => if ds.length = es.length then eqsA cs tb h ds es else some false
    | q => datO cs tb h (.lst ds) q
  | .str x, q => match q with
    | .dct _ => some false
    | q => datO cs tb h (.str x) q
  | .non, q => datO cs tb h .non q
  | .bl b, q => datO cs tb h (.bl b) q
  | .int i, q => datO cs tb h (.int i) q
  | .dct ks, q => datO cs tb h (.dct ks) q
  | p, q => datE p q
noncomputable def eqsA (cs : List Str) (tb : Tbl) (h : Hs) : List D → List D → Option Bool
  | [], es => some es.isEmpty
  | d :: r, es => match es with
    | [] => some false
    | e :: t => match eqA cs tb h d e with
      | some true => eqsA cs tb h r t
      | some false => if dst d e = true then some false else none
      | none => none
end
section
variable {X : Cx} {pins : List (Addr × Obj)} {σ : Sl} {H : Hp} {s : Shared} {m : List Addr}
mutual
theorem dst_ok (I : Inv X pins σ H s) : ∀ (p q : D) (v : V), dst p q = true → RD X.K X.mg m H p v → RD X.K X.mg m H q v → False
  | .non, q, v, e, r, r' => by
    simp only [RD] at r; subst r
    cases q <;> first
      | (cases e; done)
      | (simp only [RD] at r'; cases r'; done)
      | (simp only [RD] at r'; obtain ⟨_, _, z, _⟩ := r'; cases z; done)
      | (simp only [RD] at r'; obtain ⟨_, _, _, _, z, _⟩ := r'; cases z; done)
  | .bl b, q, v, e, r, r' => by
    simp only [RD] at r; subst r
    cases q <;> first
      | (cases e; done)
      | (simp only [RD] at r'; obtain ⟨_, _, z, _⟩ := r'; cases z; done)
      | (simp only [RD] at r'; obtain ⟨_, _, _, _, z, _⟩ := r'; cases z; done)
      | (simp only [RD] at r'; injection r' with r'; subst r'; simp [dst] at e; done)
      | (simp only [RD] at r'; cases r'; done)
  | .int b, q, v, e, r, r' => by
    simp only [RD] at r; subst r
    cases q <;> first
      | (cases e; done)
      | (simp only [RD] at r'; obtain ⟨_, _, z, _⟩ := r'; cases z; done)
      | (simp only [RD] at r'; obtain ⟨_, _, _, _, z, _⟩ := r'; cases z; done)
      | (simp only [RD] at r'; injection r' with r'; subst r'; simp [dst] at e; done)
      | (simp only [RD] at r'; cases r'; done)
  | .str b, q, v, e, r, r' => by
    simp only [RD] at r; subst r
    cases q <;> first
      | (cases e; done)
      | (simp only [RD] at r'; obtain ⟨_, _, z, _⟩ := r'; cases z; done)
      | (simp only [RD] at r'; obtain ⟨_, _, _, _, z, _⟩ := r'; cases z; done)
      | (simp only [RD] at r'; injection r' with r'; subst r'; simp [dst] at e; done)
      | (simp only [RD] at r'; cases r'; done)
  | .tup ds, q, v, e, r, r' => by
    obtain ⟨a, rfl⟩ : ∃ a, v = .ref a := by simp only [RD] at r; obtain ⟨a, _, e, _⟩ := r; exact ⟨a, e⟩
    have z := seq_tup I r
    cases q with
    | tup es =>
      simp only [dst] at e
      obtain ⟨_, xs, q1, q2⟩ := z.inj (seq_tup I r')
      exact dsts_ok I ds es xs e q1 q2
    | lst es => obtain ⟨e, _⟩ := z.inj (seq_lst I r'); exact absurd e (by decide)
    | scr es => obtain ⟨e, _⟩ := z.inj (seq_scr I r'); exact absurd e (by decide)
    | dct es => exact z.not_dct I (.inl rfl) r'
    | ins c fs => exact z.not_ins I r'
    | ref n => cases e
    | exn x c fs => cases e
    | _ => simp only [RD] at r'; cases r'
  | .lst ds, q, v, e, r, r' => by
    obtain ⟨a, rfl⟩ : ∃ a, v = .ref a := by simp only [RD] at r; obtain ⟨a, _, e, _⟩ := r; exact ⟨a, e⟩
    have z := seq_lst I r
    cases q with
    | tup es => obtain ⟨e, _⟩ := z.inj (seq_tup I r'); exact absurd e (by decide)
    | lst es =>
      simp only [dst] at e
      obtain ⟨_, xs, q1, q2⟩ := z.inj (seq_lst I r')
      exact dsts_ok I ds es xs e q1 q2
    | scr es =>
      simp only [dst] at e
      obtain ⟨_, xs, q1, q2⟩ := z.inj (seq_scr I r')
      exact dsts_ok I ds es xs e q1 q2
    | dct es => exact z.not_dct I (.inr rfl) r'
    | ins c fs => exact z.not_ins I r'
    | ref n => cases e
    | exn x c fs => cases e
    | _ => simp only [RD] at r'; cases r'
  | .scr ds, q, v, e, r, r' => by
    obtain ⟨a, rfl⟩ : ∃ a, v = .ref a := by simp only [RD] at r; obtain ⟨a, _, e, _⟩ := r; exact ⟨a, e⟩
    have z := seq_scr I r
    cases q with
    | tup es => obtain ⟨e, _⟩ := z.inj (seq_tup I r'); exact absurd e (by decide)
    | lst es =>
      simp only [dst] at e
      obtain ⟨_, xs, q1, q2⟩ := z.inj (seq_lst I r')
      exact dsts_ok I ds es xs e q1 q2
    | scr es =>
      simp only [dst] at e
      obtain ⟨_, xs, q1, q2⟩ := z.inj (seq_scr I r')
      exact dsts_ok I ds es xs e q1 q2
    | dct es => exact z.not_dct I (.inr rfl) r'
    | ins c fs => exact z.not_ins I r'
    | ref n => cases e
    | exn x c fs => cases e
    | _ => simp only [RD] at r'; cases r'
  | .dct ks, q, v, e, r, r' => by
    obtain ⟨a, rfl⟩ : ∃ a, v = .ref a := by simp only [RD] at r; obtain ⟨a, _, e, _⟩ := r; exact ⟨a, e⟩
    cases q with
    | tup es => exact (seq_tup I r').not_dct I (.inl rfl) r
    | lst es => exact (seq_lst I r').not_dct I (.inr rfl) r
    | scr es => exact (seq_scr I r').not_dct I (.inr rfl) r
    | dct es => cases e
    | ins c fs =>
      obtain ⟨o, e1, c1⟩ := dct_cls I r
      obtain ⟨o', C, e2, c2⟩ := ins_cls I r'
      rw [e1] at e2; cases e2
      rw [c1] at c2; cases c2
    | ref n => cases e
    | exn x c fs => cases e
    | _ => simp only [RD] at r'; cases r'
  | .ins c fs, q, v, e, r, r' => by
    obtain ⟨a, rfl⟩ : ∃ a, v = .ref a := by simp only [RD] at r; obtain ⟨a, _, _, _, e, _⟩ := r; exact ⟨a, e⟩
    cases q with
    | tup es => exact (seq_tup I r').not_ins I r
    | lst es => exact (seq_lst I r').not_ins I r
    | scr es => exact (seq_scr I r').not_ins I r
    | dct es =>
      obtain ⟨o, e1, c1⟩ := dct_cls I r'
      obtain ⟨o', C, e2, c2⟩ := ins_cls I r
      rw [e1] at e2; cases e2
      rw [c1] at c2; cases c2
    | ins c' gs =>
      simp only [dst] at e
      simp only [RD] at r r'
      obtain ⟨a1, C1, dx1, ys1, e1, _, f1, _, r1⟩ := r
      obtain ⟨a2, C2, dx2, ys2, e2, _, f2, _, r2⟩ := r'
      cases e1; cases e2
      rw [f1] at f2
      cases f2
      exact dstf_ok I fs gs ys1 e r1 r2
    | ref n => cases e
    | exn x c fs => cases e
    | _ => simp only [RD] at r'; cases r'
  | .ref n, q, v, e, r, r' => by simp only [dst] at e; cases e
  | .exn x c fs, q, v, e, r, r' => by simp only [dst] at e; cases e
theorem dsts_ok (I : Inv X pins σ H s) : ∀ (ps qs : List D) (xs : List V), dsts ps qs = true → RDs X.K X.mg m H ps xs → RDs X.K X.mg m H qs xs → False
  | [], qs, xs, e, r, r' => by
    simp only [RDs] at r; subst r
    cases qs with
    | nil => cases e
    | cons q t => simp only [RDs] at r'; obtain ⟨_, _, z, _⟩ := r'; cases z
  | p :: r0, qs, xs, e, r, r' => by
    simp only [RDs] at r
    obtain ⟨v, vr, rfl, r1, r2⟩ := r
    cases qs with
    | nil => simp only [RDs] at r'; cases r'
    | cons q t =>
      simp only [RDs] at r'
      obtain ⟨v', vr', z, r1', r2'⟩ := r'
      cases z
      simp only [dsts, Bool.or_eq_true] at e
      rcases e with e | e
      · exact dst_ok I p q v e r1 r1'
      · exact dsts_ok I r0 t vr e r2 r2'
theorem dstf_ok (I : Inv X pins σ H s) : ∀ (ps qs : List (Str × D)) (xs : List (Str × V)), dstf ps qs = true → RDf X.K X.mg m H ps xs → RDf X.K X.mg m H qs xs → False
  | [], qs, xs, e, r, r' => by
    simp only [RDf] at r; subst r
    cases qs with
    | nil => cases e
    | cons q t => simp only [RDf] at r'; obtain ⟨_, _, z, _⟩ := r'; cases z
  | (k, p) :: r0, qs, xs, e, r, r' => by
    simp only [RDf] at r
    obtain ⟨v, vr, rfl, r1, r2⟩ := r
    cases qs with
    | nil => simp only [RDf] at r'; cases r'
    | cons q t =>
      obtain ⟨k', q⟩ := q
      simp only [RDf] at r'
      obtain ⟨v', vr', z, r1', r2'⟩ := r'
      cases z
      simp only [dstf, Bool.or_eq_true, decide_eq_true_eq] at e
      rcases e with e | e | e
      · exact e rfl
      · exact dst_ok I p q v e r1 r1'
      · exact dstf_ok I r0 t vr e r2 r2'
end
end
end G

/-! G33b: data on the left, an own instance on the right. -/
namespace G
open PySem PySem.Spec PyProof.Rows L2
open PySem.SeqAt PySem.AutoSeq1 PySem.MeetsSeq PySem.MeetsSeq2 PySem.MeetsSeq3 PySem.SeqRoads2
section
variable {prog : Program} {w : World} {A : Around} {E : Value → Shared → Prop} {s : Shared} {x : Addr} {ox : Obj} {Q : Value → Shared → Prop}
/-- the object at x is no built-in's -/
structure Alien (prog : Program) (w : World) (s : Shared) (x : Addr) (ox : Obj) : Prop where
  at_ : s.heap.get? x = some ox
  data : ox.data = .plain
  no : ∀ n ∈ tyNames, PySem.W.Looks (model prog w) s.heap (isInstance (.ref x) (.type n)) false
theorem Alien.isI (al : Alien prog w s x ox) {n : String} (hn : n ∈ tyNames) {A : Around} {E : Value → Shared → Prop} {R : Bool → Shared → Prop} (h : R false s) : wpAny (model prog w) A (isInstance (.ref x) (.type n)) R E s := (al.no n hn).here h
theorem dec_list (ne : Bool) (al : Alien prog w s x ox) {l : Addr} {items : Array Value} {n : Nat} {dd : Option Addr} {sl : Array (Option Value)} (hl : s.heap.get? l = some { cls := .type "list", dict := dd, data := .seq items n, slots := sl }) (h : Q .notImplemented s) :
    wpAny (model prog w) A.in1 ((if ne then Builtin.«list.__ne__» else Builtin.«list.__eq__») ⟨[.ref l, .ref x], []⟩) (GQ.FinOf prog w A (wants Q E)) (fun e s' => wants Q E (.error e) s') s := by
  have f1 : ∀ {A : Around} {E : Value → Shared → Prop} {R : Bool → Shared → Prop} (h : R false s), wpAny (model prog w) A (isInstance (.ref x) (.type "list")) R E s := fun h => al.isI (by decide) h
  obtain ⟨hp, g, d, tk, os⟩ := s
  cases ne with
  | false =>
    simp only [Bool.false_eq_true, if_false]
    wp_walk using wpAny_loadPart' hl, f1
    exact h
  | true =>
    simp only [if_true]
    wp_walk using wpAny_loadPart' hl, f1
    exact h
theorem dec_tup (ne : Bool) (al : Alien prog w s x ox) {l : Addr} {items : Array Value} {n : Nat} {dd : Option Addr} {sl : Array (Option Value)} (hl : s.heap.get? l = some { cls := .type "tuple", dict := dd, data := .seq items n, slots := sl }) (h : Q .notImplemented s) :
    wpAny (model prog w) A.in1 ((if ne then Builtin.«tuple.__ne__» else Builtin.«tuple.__eq__») ⟨[.ref l, .ref x], []⟩) (GQ.FinOf prog w A (wants Q E)) (fun e s' => wants Q E (.error e) s') s := by
  have f1 : ∀ {A : Around} {E : Value → Shared → Prop} {R : Bool → Shared → Prop} (h : R false s), wpAny (model prog w) A (isInstance (.ref x) (.type "tuple")) R E s := fun h => al.isI (by decide) h
  obtain ⟨hp, g, d, tk, os⟩ := s
  cases ne with
  | false =>
    simp only [Bool.false_eq_true, if_false]
    wp_walk using wpAny_loadPart' hl, f1
    exact h
  | true =>
    simp only [if_true]
    wp_walk using wpAny_loadPart' hl, f1
    exact h
theorem dec_non (ne : Bool) (h : Q .notImplemented s) :
    wpAny (model prog w) A.in1 ((if ne then Builtin.«NoneType.__ne__» else Builtin.«NoneType.__eq__») ⟨[.none, .ref x], []⟩) (GQ.FinOf prog w A (wants Q E)) (fun e s' => wants Q E (.error e) s') s := by
  obtain ⟨hp, g, d, tk, os⟩ := s
  cases ne with
  | false =>
    simp only [Bool.false_eq_true, if_false]
    wp_walk
    exact h
  | true =>
    simp only [if_true]
    wp_walk
    exact h
theorem dec_int (ne : Bool) (al : Alien prog w s x ox) {i : Int} {t : Tok} (h : Q .notImplemented s) :
    wpAny (model prog w) A.in1 ((if ne then Builtin.«int.__ne__» else Builtin.«int.__eq__») ⟨[.int i t, .ref x], []⟩) (GQ.FinOf prog w A (wants Q E)) (fun e s' => wants Q E (.error e) s') s := by
  have hl := al.at_
  have hd := al.data
  obtain ⟨oc, od, oo, os'⟩ := ox
  simp only at hd
  subst hd
  obtain ⟨hp, g, d, tk, os⟩ := s
  cases ne with
  | false =>
    simp only [Bool.false_eq_true, if_false]
    wp_walk using wpAny_loadPart' hl, wpAny_load hl
    exact h
  | true =>
    simp only [if_true]
    wp_walk using wpAny_loadPart' hl, wpAny_load hl
    exact h
theorem dec_bool (ne : Bool) (al : Alien prog w s x ox) {i : Bool} (h : Q .notImplemented s) :
    wpAny (model prog w) A.in1 ((if ne then Builtin.«int.__ne__» else Builtin.«int.__eq__») ⟨[.bool i, .ref x], []⟩) (GQ.FinOf prog w A (wants Q E)) (fun e s' => wants Q E (.error e) s') s := by
  have hl := al.at_
  have hd := al.data
  obtain ⟨oc, od, oo, os'⟩ := ox
  simp only at hd
  subst hd
  obtain ⟨hp, g, d, tk, os⟩ := s
  cases ne with
  | false =>
    simp only [Bool.false_eq_true, if_false]
    wp_walk using wpAny_loadPart' hl, wpAny_load hl
    exact h
  | true =>
    simp only [if_true]
    wp_walk using wpAny_loadPart' hl, wpAny_load hl
    exact h
theorem dec_str (ne : Bool) (al : Alien prog w s x ox) {i : Str} {t : Tok} (h : Q .notImplemented s) :
    wpAny (model prog w) A.in1 ((if ne then Builtin.«str.__ne__» else Builtin.«str.__eq__») ⟨[.str i t, .ref x], []⟩) (GQ.FinOf prog w A (wants Q E)) (fun e s' => wants Q E (.error e) s') s := by
  have hl := al.at_
  have hd := al.data
  obtain ⟨oc, od, oo, os'⟩ := ox
  simp only at hd
  subst hd
  obtain ⟨hp, g, d, tk, os⟩ := s
  cases ne with
  | false =>
    simp only [Bool.false_eq_true, if_false]
    wp_walk using wpAny_loadPart' hl, wpAny_load hl
    exact h
  | true =>
    simp only [if_true]
    wp_walk using wpAny_loadPart' hl, wpAny_load hl
    exact h
theorem dec_dict (ne : Bool) (al : Alien prog w s x ox) {l : Addr} {ol : Obj} (hl : s.heap.get? l = some ol) (hc : ol.cls = .type "dict") (h : Q .notImplemented s) :
    wpAny (model prog w) A.in1 ((if ne then Builtin.«dict.__ne__» else Builtin.«dict.__eq__») ⟨[.ref l, .ref x], []⟩) (GQ.FinOf prog w A (wants Q E)) (fun e s' => wants Q E (.error e) s') s := by
  have f1 : ∀ {A : Around} {E : Value → Shared → Prop} {R : Bool → Shared → Prop} (h : R false s), wpAny (model prog w) A (isInstance (.ref x) (.type "dict")) R E s := fun h => al.isI (by decide) h
  obtain ⟨oc, od, oo, os'⟩ := ol
  simp only at hc
  subst hc
  obtain ⟨hp, g, d, tk, os⟩ := s
  cases ne with
  | false =>
    simp only [Bool.false_eq_true, if_false]
    wp_walk using wpAny_loadPart' hl, wpAny_load hl, f1
    exact h
  | true =>
    simp only [if_true]
    wp_walk using wpAny_loadPart' hl, wpAny_load hl, f1
    exact h
end
section
variable {prog : Program} {w : World} {A : Around} {E : Value → Shared → Prop} {s : Shared} {K : PySem.W.Frag} {x C f L : Addr} {b tb : Value} {ox : Obj} {od : Option Obj} {base : Heap} {m : Str → Option Value}
theorem objNe_KB {Q : Fin → Shared → Prop} (hu : A.units < cLine) (X : K.In s.heap) (I : PySem.W.InstAt s.heap x ox C od) (he : PySem.W.findIn K (.ref C) "__eq__" = some (some (.ref f))) (hf : PySem.W.isFn K (.ref f) = true)
    (h : wpAny (model prog w) A (call (.ref f) [.ref x, b]) (fun v s' => ∃ b, v = .bool b ∧ Q (.done (.ret (.bool (!b)))) s') E s) : wpAny (model prog w) A (Builtin.«object.__ne__» ⟨[.ref x, b], []⟩) Q E s := by
  unfold Builtin.«object.__ne__»
  repeat (first
    | with_reducible refine wpAny_cRoomFor hu ?_
    | (refine wpAny_bind (m := callSpecialIfBound? (.ref x) (Str.ofString "__eq__") [b])
        (PySem.W.ifBound_K X I he hf (wpAny_mono h (fun r s' hr => by
          obtain ⟨b, rfl, hq⟩ := hr
          repeat (first | exact hq | exact wpAny_pure hq | exact wpAny_truthy_bool hq | (refine wpAny_bind (m := truthy (.bool _)) (wpAny_truthy_bool ?_)) | wp_step)) fun _ _ e => e)))
    | wp_step)
/-- the own method is asked -/
theorem try_own {ne : Bool} {Q : Value → Shared → Prop} (hu : A.units + 1 < cLine) (X : K.In s.heap) (I : PySem.W.InstAt s.heap x ox C od) (hm : PySem.W.mroIn K C (.type "object") = some true)
    (he : PySem.W.findIn K (.ref C) "__eq__" = some (some (.ref f))) (hf : PySem.W.isFn K (.ref f) = true) (hn : PySem.W.findIn K (.ref C) "__ne__" = some (some (.builtin "object.__ne__")))
    (h : wpAny (model prog w) (if ne then A.in1 else A) (call (.ref f) [.ref x, b]) (fun v s' => ∃ b, v = .bool b ∧ Q (.bool (b != ne)) s') E s) :
    wpAny (model prog w) A (tryCompare (.ref x) (if ne then "__ne__" else "__eq__") b) (fun r s' => ∃ v, r = some v ∧ Q v s') E s := by
  cases ne with
  | false =>
    simp only [Bool.false_eq_true, if_false] at h ⊢
    unfold tryCompare
    refine wpAny_bind (PySem.W.ifBound_K X I he hf (wpAny_mono h (fun v s' hv => ?_) fun _ _ e => e))
    obtain ⟨b, rfl, hq⟩ := hv
    exact wpAny_pure ⟨_, rfl, by simpa using hq⟩
  | true =>
    simp only [if_true] at h ⊢
    unfold tryCompare
    refine wpAny_bind (ifBound_ne X I hn (wpAny_call (codeAny_call_builtin F.cmp_object.ne.plain F.cmpEntry_ne (PySem.W.check_slot F.cmpKind_ne F.cmpSplit_ne (I.type.andThen (PySem.W.looks_mroIn X hm)) (F.cmpArgs_ne _ _)
      (objNe_KB (A := A.in1) hu X I he hf (wpAny_mono h (fun v s' hv => ?_) fun _ _ z => z))))))
    obtain ⟨b, rfl, hq⟩ := hv
    have hq : Q (.bool (!b)) s' := by simpa using hq
    first | exact ⟨b, rfl, wpAny_pure ⟨_, rfl, hq⟩⟩ | exact ⟨b, rfl, wpAny_pure (wpAny_pure ⟨_, rfl, hq⟩)⟩ | exact ⟨b, rfl, ⟨_, rfl, hq⟩⟩
/-- data first: it declines -/
theorem rc_refl {ne : Bool} {a : Value} {Ta id : String} {Q : Value → Shared → Prop} (hu : A.units + 1 < cLine) (ha : s.TypeIs a Ta) (h1 : Slot Ta (if ne then "__ne__" else "__eq__") id)
    (hc : ∀ Q' : Value → Shared → Prop, Q' .notImplemented s → wpAny (model prog w) A (call (.builtin id) [a, .ref x]) Q' E s)
    (X : K.In s.heap) (I : PySem.W.InstAt s.heap x ox C od) (hsub : PySem.W.subIn K (.ref C) (.type Ta) = some false) (hm : PySem.W.mroIn K C (.type "object") = some true)
    (he : PySem.W.findIn K (.ref C) "__eq__" = some (some (.ref f))) (hf : PySem.W.isFn K (.ref f) = true) (hn : PySem.W.findIn K (.ref C) "__ne__" = some (some (.builtin "object.__ne__")))
    (h : wpAny (model prog w) (if ne then A.in1 else A) (call (.ref f) [.ref x, a]) (fun v s' => ∃ b, v = .bool b ∧ Q (.bool (b != ne)) s') E s) : wpAny (model prog w) A (richCompare (if ne then .NotEq else .Eq) a (.ref x)) Q E s := by
  have one := try_own (ne := ne) (b := a) hu X I hm he hf hn h
  have tryA : ∀ R : Option Value → Shared → Prop, R none s → wpAny (model prog w) A (tryCompare a (if ne then "__ne__" else "__eq__") (.ref x)) R E s := fun R hR => wpAny_tryCompare_declines ha h1 (hc _ ⟨rfl, hR⟩)
  have hne : (Value.type Ta != Value.ref C) = true := rfl
  cases ne with
  | false =>
    simp only [Bool.false_eq_true, if_false] at one tryA ⊢
    simp only [richCompare, show cmpInfo CmpOp.Eq = ("==", ("__eq__" : Str), ("__eq__" : Str)) from rfl, ha.oneThing_none]
    try with_reducible refine wpAny_holding ?_
    refine wpAny_bind (wpAny_cRoomFor_or (.inr (by omega)) ?_)
    refine wpAny_bind (wpAny_typeOf ha (wpAny_bind (I.type.here ?_)))
    simp only [hne, if_true]
    refine wpAny_bind ((PySem.W.looks_subIn X hsub).here ?_)
    simp only [Bool.false_eq_true, if_false, Bool.not_false, if_true]
    refine wpAny_bind (tryA _ ?_)
    refine wpAny_bind (wpAny_mono one (fun r s' z => ?_) fun _ _ e => e)
    obtain ⟨v, rfl, hq⟩ := z
    exact wpAny_pure hq
  | true =>
    simp only [if_true] at one tryA ⊢
    simp only [richCompare, show cmpInfo CmpOp.NotEq = ("!=", ("__ne__" : Str), ("__ne__" : Str)) from rfl, ha.oneThing_none]
    try with_reducible refine wpAny_holding ?_
    refine wpAny_bind (wpAny_cRoomFor_or (.inr (by omega)) ?_)
    refine wpAny_bind (wpAny_typeOf ha (wpAny_bind (I.type.here ?_)))
    simp only [hne, if_true]
    refine wpAny_bind ((PySem.W.looks_subIn X hsub).here ?_)
    simp only [Bool.false_eq_true, if_false, Bool.not_false, if_true]
    refine wpAny_bind (tryA _ ?_)
    refine wpAny_bind (wpAny_mono one (fun r s' z => ?_) fun _ _ e => e)
    obtain ⟨v, rfl, hq⟩ := z
    exact wpAny_pure hq
/-- a text and a dict -/
theorem rc_strdict {ne : Bool} {y : Str} {t : Tok} {l : Addr} {ol : Obj} {Q : Value → Shared → Prop} (hu : A.units < cLine) (hl : s.heap.get? l = some ol) (hc : ol.cls = .type "dict") (hd : ∃ es n, ol.data = .dict es n) (h : Q (.bool ne) s) : wpAny (model prog w) A (richCompare (if ne then .NotEq else .Eq) (.str y t) (.ref l)) Q E s := by
  have ha : s.TypeIs (.str y t) "str" := rfl
  have hb : s.TypeIs (.ref l) "dict" := ⟨ol, hl, hc⟩
  have hne : (Value.type "str" != Value.type "dict") = true := by decide
  obtain ⟨es, n, hd⟩ := hd
  obtain ⟨oc, od, oo, os'⟩ := ol
  simp only at hd hc
  subst hd hc
  have c1 : ∀ Q' : Value → Shared → Prop, Q' .notImplemented s → wpAny (model prog w) A (call (.builtin (if ne then "str.__ne__" else "str.__eq__")) [.str y t, .ref l]) Q' E s := by
    intro Q' hq
    cases ne with
    | false =>
      simp only [Bool.false_eq_true, if_false]
      refine GQ.call_here F.slot_str_eq ha F.entry_str_eq (F.args_str_eq_2 _ _) ?_
      obtain ⟨hp, g, d, tk, os⟩ := s
      wp_walk using wpAny_loadPart' hl, wpAny_load hl
      exact hq
    | true =>
      simp only [if_true]
      refine GQ.call_here F.slot_str_ne ha F.entry_str_ne (F.args_str_ne_2 _ _) ?_
      obtain ⟨hp, g, d, tk, os⟩ := s
      wp_walk using wpAny_loadPart' hl, wpAny_load hl
      exact hq
  have c2 : ∀ Q' : Value → Shared → Prop, Q' .notImplemented s → wpAny (model prog w) A (call (.builtin (if ne then "dict.__ne__" else "dict.__eq__")) [.ref l, .str y t]) Q' E s := by
    intro Q' hq
    have f1 : ∀ {A : Around} {E : Value → Shared → Prop} {R : Bool → Shared → Prop} {s : Shared} (h : R false s), wpAny (model prog w) A (isInstance (.str y t) (.type "dict")) R E s := fun h => wpAny_isInstance (T := "str") (b := false) rfl F.sub_str_dict h
    cases ne with
    | false =>
      simp only [Bool.false_eq_true, if_false]
      refine GQ.call_here F.slot_dict_eq_refl hb F.entry_dict_eq (F.args_dict_eq_2 _ _) ?_
      obtain ⟨hp, g, d, tk, os⟩ := s
      wp_walk using wpAny_loadPart' hl, wpAny_load hl, f1
      exact hq
    | true =>
      simp only [if_true]
      refine GQ.call_here F.slot_dict_ne_refl hb F.entry_dict_ne (F.args_dict_ne_2 _ _) ?_
      obtain ⟨hp, g, d, tk, os⟩ := s
      wp_walk using wpAny_loadPart' hl, wpAny_load hl, f1
      exact hq
  have same : ∀ R : Bool → Shared → Prop, R false s → wpAny (model prog w) A (isSame (.str y t) (.ref l)) R E s := fun R hR => wpAny_of_eq (rfl : isSame (.str y t) (.ref l) = pure false) hR
  cases ne with
  | false =>
    simp only [Bool.false_eq_true, if_false] at c1 c2 ⊢
    exact rc_eq_decline_or (k := false) ha hb hne F.sub_dict_str F.slot_str_eq F.slot_dict_eq_refl c1 c2 same (.inr hu) h
  | true =>
    simp only [if_true] at c1 c2 ⊢
    simp only [richCompare, show cmpInfo CmpOp.NotEq = ("!=", ("__ne__" : Str), ("__ne__" : Str)) from rfl, ha.oneThing_none]
    try with_reducible refine wpAny_holding ?_
    refine wpAny_bind (wpAny_cRoomFor_or (.inr hu) ?_)
    refine wpAny_bind (wpAny_typeOf ha (wpAny_bind (wpAny_typeOf hb ?_)))
    simp only [hne, if_true]
    refine wpAny_bind (wpAny_of_eq F.sub_dict_str ?_)
    simp only [Bool.false_eq_true, if_false, Bool.not_false, if_true]
    refine wpAny_bind (m := tryCompare _ _ _) (wpAny_tryCompare_declines ha F.slot_str_ne (c1 _ ⟨rfl, ?_⟩))
    refine wpAny_bind (m := tryCompare _ _ _) (wpAny_tryCompare_declines hb F.slot_dict_ne_refl (c2 _ ⟨rfl, ?_⟩))
    exact wpAny_bind (wpAny_rule (wpAny_bind (same _ (wpAny_pure h))))
end
end G

/-! G34: that == tells it. -/
namespace G
open PySem PySem.Spec PyProof.Rows L2
/-- no class of these is under another, nor is a built-in type -/
def NFF (K : PySem.W.Frag) (mg : Str → Option Value) (cs : List Str) : Prop := ∀ c ∈ cs, ∀ C, mg c = some (.ref C) → (∀ c' ∈ cs, ∀ C', mg c' = some (.ref C') → PySem.W.notFirst K C (.ref C') = true) ∧ ∀ n ∈ tyNames, PySem.W.notFirst K C (.type n) = true ∧ PySem.W.subIn K (.ref C) (.type n) = some false
theorem NFF.at {K : PySem.W.Frag} {mg : Str → Option Value} {cs : List Str} (f : NFF K mg cs) {c : Str} {C : Addr} (hc : c ∈ cs) (hC : mg c = some (.ref C)) {t : Ty} {tv : Value} (ok : okTy cs t = true) (ht : TyV mg t tv) : PySem.W.notFirst K C tv = true := by
  cases t with
  | b n =>
    cases (show tv = .type n from ht)
    exact ((f c hc C hC).2 n (by simpa [okTy] using ok)).1
  | o c' =>
    obtain ⟨C', hC', rfl⟩ := ht
    exact (f c hc C hC).1 c' (by simpa [okTy] using ok) C' hC'
section
variable {prog : Program} {w : World} {A : Around} {E : Value → Shared → Prop} {s : Shared} {K : PySem.W.Frag} {x C f L : Addr} {b tb : Value} {ox : Obj} {od : Option Obj} {base : Heap} {m : Str → Option Value}
theorem ne_KB {Q : Value → Shared → Prop} (hu : A.units + 1 < cLine) (F0 : Fr base L s.heap m) (X₀ : K.In base) (I : PySem.W.InstAt s.heap x ox C od) (hb : PySem.W.Looks (model prog w) s.heap (typeOf b) tb) (hn1 : PySem.W.notFirst K C tb = true) (hm : PySem.W.mroIn K C (.type "object") = some true)
    (he : PySem.W.findIn K (.ref C) "__eq__" = some (some (.ref f))) (hf : PySem.W.isFn K (.ref f) = true) (hn : PySem.W.findIn K (.ref C) "__ne__" = some (some (.builtin "object.__ne__")))
    (h : wpAny (model prog w) A.in1 (call (.ref f) [.ref x, b]) (fun v s' => ∃ b, v = .bool b ∧ Q (.bool (!b)) s') E s) : wpAny (model prog w) A (richCompare .NotEq (.ref x) b) Q E s := by
  have X := X₀.keeps F0.keep
  have one : wpAny (model prog w) A (tryCompare (.ref x) "__ne__" b) (fun r s' => ∃ v, r = some v ∧ Q v s') E s := by
    unfold tryCompare
    refine wpAny_bind (ifBound_ne X I hn (wpAny_call (codeAny_call_builtin F.cmp_object.ne.plain F.cmpEntry_ne (PySem.W.check_slot F.cmpKind_ne F.cmpSplit_ne (I.type.andThen (PySem.W.looks_mroIn X hm)) (F.cmpArgs_ne _ _)
      (objNe_KB (A := A.in1) hu X I he hf (wpAny_mono h (fun v s' hv => ?_) fun _ _ z => z))))))
    obtain ⟨b, rfl, hq⟩ := hv
    first | exact ⟨b, rfl, wpAny_pure ⟨_, rfl, hq⟩⟩ | exact ⟨b, rfl, wpAny_pure (wpAny_pure ⟨_, rfl, hq⟩)⟩ | exact ⟨b, rfl, ⟨_, rfl, hq⟩⟩
  unfold richCompare
  simp only [oneThing_ref]
  refine wpAny_holding (wpAny_bind (wpAny_cRoomFor (Nat.lt_of_succ_lt hu) ?_))
  rw [cmpInfo_NotEq]
  dsimp only
  refine wpAny_bind (I.type.here (wpAny_bind (hb.here ?_)))
  split
  · rename_i q
    have e : PySem.W.subIn K tb (.ref C) = some false := by
      rcases Bool.or_eq_true_iff.mp hn1 with e | e
      · rw [beq_iff_eq.mp e] at q; simp at q
      · exact beq_iff_eq.mp e
    refine wpAny_bind ((PySem.W.looks_subIn X e).here ?_)
    simp only [Bool.false_eq_true, if_false]
    refine wpAny_bind (wpAny_mono one (fun r s' z => ?_) fun _ _ e => e)
    obtain ⟨v, rfl, hq⟩ := z
    first | exact wpAny_pure hq | exact wpAny_pure (wpAny_pure hq)
  · refine wpAny_bind (wpAny_pure ?_)
    simp only [Bool.false_eq_true, if_false]
    refine wpAny_bind (wpAny_mono one (fun r s' z => ?_) fun _ _ e => e)
    obtain ⟨v, rfl, hq⟩ := z
    first | exact wpAny_pure hq | exact wpAny_pure (wpAny_pure hq)
end
/-- p == q, p != q, wherever and whenever -/
def RcV (X : Cx) (h : Hs) (n : Nat) (p q : D) (b : Bool) : Prop := ∀ (ne : Bool) (A : Around) (pins : List (Addr × Obj)) (σ : Sl) (s : Shared) (u v : Value) (x y : V) (m : List Addr) (H : Hp) (Q : Value → Shared → Prop),
  RoomG n A → A.frames = X.A.frames → Inv X pins σ H s → Rel X.K X.mg m H h → RD X.K X.mg m H p x → RD X.K X.mg m H q y → RelV x u → RelV y v →
  (∀ s' m' H', Inv X pins σ H' s' → Ext m H m' H' → Rel X.K X.mg m' H' h → Q (.bool (b != ne)) s') → wpAny (model X.prog X.w) A (richCompare (if ne then .NotEq else .Eq) u v) Q X.xe s
/-- .. inside a list -/
def EqV (X : Cx) (h : Hs) (n : Nat) (p q : D) (b : Bool) : Prop := ∀ (A : Around) (pins : List (Addr × Obj)) (σ : Sl) (s : Shared) (u v : Value) (x y : V) (m : List Addr) (H : Hp) (Q : Bool → Shared → Prop),
  RoomG n A → A.frames = X.A.frames → Inv X pins σ H s → Rel X.K X.mg m H h → RD X.K X.mg m H p x → RD X.K X.mg m H q y → RelV x u → RelV y v →
  (∀ s' m' H', Inv X pins σ H' s' → Ext m H m' H' → Rel X.K X.mg m' H' h → Q b s') → wpAny (model X.prog X.w) A (eqBool u v) Q X.xe s
theorem RcV.mono {X : Cx} {h : Hs} {n k : Nat} {p q : D} {b : Bool} (r : RcV X h n p q b) (l : n ≤ k) : RcV X h k p q b := fun ne A pins σ s u v x y m H Q hr => r ne A pins σ s u v x y m H Q (hr.mono l)
theorem eqBool_V {prog : Program} {w : World} {A : Around} {E : Value → Shared → Prop} {s : Shared} {x : V} {u v : Value} {Q : Bool → Shared → Prop} (rx : RelV x u) (nf : ∀ b, x ≠ .flt b) (ne : u ≠ v) (h : wpAny (model prog w) A (richCompare .Eq u v) (fun r s' => ∃ b, r = .bool b ∧ Q b s') E s) : wpAny (model prog w) A (eqBool u v) Q E s := by
  have key : wpAny (model prog w) A (richCompare .Eq u v >>= fun r => truthOfDropped r) Q E s := wpAny_bind (wpAny_mono h (fun r s' ⟨b, e, q⟩ => by subst e; exact wpAny_truthy_bool q) fun _ _ z => z)
  unfold eqBool
  refine wpAny_holding ?_
  refine wpAny_ite_split (fun hab => absurd (eq_of_beq hab) ne) (fun _ => ?_)
  cases x with
  | flt b => exact absurd rfl (nf b)
  | non => cases (show u = Value.none from rx); exact key
  | bl b => cases (show u = Value.bool b from rx); exact key
  | int i => obtain ⟨t, e⟩ := (show ∃ t, u = Value.int i t from rx); subst e; exact key
  | str i => obtain ⟨t, e⟩ := (show ∃ t, u = Value.str i t from rx); subst e; exact key
  | byt i => obtain ⟨t, e⟩ := (show ∃ t, u = Value.bytes i t from rx); subst e; exact key
  | ref a => cases (show u = Value.ref a from rx); exact key
  | ty n => cases (show u = Value.type n from rx); exact key
theorem rd_noflt {K : PySem.W.Frag} {mg : Str → Option Value} {m : List Addr} {H : Hp} {p : D} {x : V} (r : RD K mg m H p x) : ∀ b, x ≠ .flt b := by
  intro b e
  subst e
  cases p <;> first
    | (simp only [RD] at r; cases r; done)
    | (simp only [RD] at r; obtain ⟨_, _, z, _⟩ := r; cases z; done)
    | (simp only [RD] at r; obtain ⟨_, _, _, _, z, _⟩ := r; cases z; done)
    | (simp only [RD] at r; obtain ⟨_, z, _⟩ := r; cases z; done)
theorem RcV.eqV {X : Cx} {h : Hs} {n : Nat} {p q : D} {b : Bool} (r : RcV X h n p q b) (hd : b = true ∨ dst p q = true) : EqV X h n p q b := by
  intro A pins σ s u v x y m H Q hr hf I rl rp rq ru rv hq
  by_cases e : u = v
  · subst e
    have := ru.inj rv
    subst this
    have : b = true := hd.elim id fun z => (dst_ok I p q x z rp rq).elim
    subst this
    exact SeqAt.EqAt.same (A := A) (s := s) u X.prog X.w X.xe _ (hq s m H I (Ext.refl m H) rl)
  · exact eqBool_V ru (rd_noflt rp) e (r false A pins σ s u v x y m H _ hr hf I rl rp rq ru rv fun s' m' H' i e' r' => ⟨_, rfl, by simpa using hq s' m' H' i e' r'⟩)
/-- lists of such -/
inductive EqsV (X : Cx) (h : Hs) (n : Nat) : List D → List D → Bool → Prop
  | nil {es : List D} : EqsV X h n [] es es.isEmpty
  | lack {d : D} {r : List D} : EqsV X h n (d :: r) [] false
  | no {d e : D} {r t : List D} : EqV X h n d e false → EqsV X h n (d :: r) (e :: t) false
  | yes {d e : D} {r t : List D} {b : Bool} : EqV X h n d e true → EqsV X h n r t b → EqsV X h n (d :: r) (e :: t) b
section
variable {X : Cx} {h : Hs} {n : Nat}
theorem rc_dat {p q : D} {b : Bool} (e : datE p q = some b) : RcV X h n p q b := by
  intro ne A pins σ s u v x y m H Q hr hf I rl rp rq ru rv hq
  unfold datE at e
  split at e
  · rename_i d d' h1 h2
    split at e
    · rename_i sh
      cases e
      obtain ⟨as, r1⟩ := Dp.reads I d x u (toP_ok _ _ _ rp h1) ru
      obtain ⟨bs, r2⟩ := Dp.reads I d' y v (toP_ok _ _ _ rq h2) rv
      have hu : A.units + 64 < cLine := by have := hr.rg.un; omega
      have q0 := hq s m H I (Ext.refl m H) rl
      cases ne with
      | false => exact SeqAt.compareEq_shaped r1 r2 sh.1 sh.2 hu (by simpa using q0)
      | true => exact SeqAt.compareNe_shaped r1 r2 sh.1 sh.2 hu (by simpa using q0)
    · cases e
  · cases e
/-- the i-th of both -/
theorem turnV {A : Around} {pins : List (Addr × Obj)} {σ : Sl} {s : Shared} {m : List Addr} {H : Hp} {ds es : List D} {b : Bool} {xs ys : List V} {its its2 : List Value} {i : Nat} (hr : RoomG n A) (hf : A.frames = X.A.frames)
    (I : Inv X pins σ H s) (rl : Rel X.K X.mg m H h) (e : EqsV X h n (ds.drop i) (es.drop i) b) (rd : RDs X.K X.mg m H ds xs) (re : RDs X.K X.mg m H es ys) (rv : Vals xs its) (rw_ : Vals ys its2) (h1 : i < its.length) (h2 : i < its2.length)
    {Q : Bool → Shared → Prop} (hT : ∀ s' m' H', Inv X pins σ H' s' → Ext m H m' H' → Rel X.K X.mg m' H' h → EqsV X h n (ds.drop (i + 1)) (es.drop (i + 1)) b → Q true s') (hF : b = false → ∀ s' m' H', Inv X pins σ H' s' → Ext m H m' H' → Rel X.K X.mg m' H' h → Q false s') :
    wpAny (model X.prog X.w) A (eqBool its[i] its2[i]) Q X.xe s := by
  have l1 := rd.len
  have l2 := re.len
  have l3 := rv.length
  have l4 := rw_.length
  have d1 : i < ds.length := by omega
  have d2 : i < es.length := by omega
  obtain ⟨x, ex, rx⟩ := rd.get (List.getElem?_eq_getElem d1)
  obtain ⟨y, ey, ry⟩ := re.get (List.getElem?_eq_getElem d2)
  obtain ⟨u, eu, ru⟩ := rv.get ex
  obtain ⟨v, ev, rv⟩ := rw_.get ey
  rw [List.getElem?_eq_getElem h1] at eu
  rw [List.getElem?_eq_getElem h2] at ev
  rw [Option.some.inj eu, Option.some.inj ev]
  rw [List.drop_eq_getElem_cons d1, List.drop_eq_getElem_cons d2] at e
  generalize hp : ds[i] = p at *
  generalize hq : es[i] = q at *
  generalize ds.drop (i + 1) = r at *
  generalize es.drop (i + 1) = t at *
  cases e with
  | no k => exact k A pins σ s u v x y m H _ hr hf I rl rx ry ru rv (hF rfl)
  | yes k k2 => exact k A pins σ s u v x y m H _ hr hf I rl rx ry ru rv fun s' m' H' i e' r' => hT s' m' H' i e' r' k2
theorem eqs_end {ds es : List D} {b : Bool} {i : Nat} (e : EqsV X h n (ds.drop i) (es.drop i) b) (hi : i = min ds.length es.length) : b = (ds.length == es.length) := by
  rcases Nat.lt_or_ge ds.length es.length with z | z
  · have : ds.drop i = [] := List.drop_eq_nil_of_le (by omega)
    rw [this, List.drop_eq_getElem_cons (show i < es.length by omega)] at e
    cases e with
    | nil => exact (beq_eq_false_iff_ne.mpr (by omega)).symm
  · rcases Nat.lt_or_ge es.length ds.length with z2 | z2
    · have : es.drop i = [] := List.drop_eq_nil_of_le (by omega)
      rw [this, List.drop_eq_getElem_cons (show i < ds.length by omega)] at e
      cases e with
      | lack => exact (beq_eq_false_iff_ne.mpr (by omega)).symm
    · have e1 : ds.drop i = [] := List.drop_eq_nil_of_le (by omega)
      have e2 : es.drop i = [] := List.drop_eq_nil_of_le (by omega)
      rw [e1, e2] at e
      have el : ds.length = es.length := by omega
      cases e with
      | nil => rw [el]; simp
def StI (X : Cx) (h : Hs) (n : Nat) (pins : List (Addr × Obj)) (σ : Sl) (m : List Addr) (H : Hp) (ds es : List D) (b : Bool) (i : Nat) (s' : Shared) : Prop := ∃ m' H', Inv X pins σ H' s' ∧ Ext m H m' H' ∧ Rel X.K X.mg m' H' h ∧ EqsV X h n (ds.drop i) (es.drop i) b
def StF (X : Cx) (h : Hs) (pins : List (Addr × Obj)) (σ : Sl) (m : List Addr) (H : Hp) (b : Bool) (s' : Shared) : Prop := b = false ∧ ∃ m' H', Inv X pins σ H' s' ∧ Ext m H m' H' ∧ Rel X.K X.mg m' H' h
theorem rc_tup {ds es : List D} {b : Bool} (e : EqsV X h n ds es b) : RcV X h (n + 1) (.tup ds) (.tup es) b := by
  intro ne A pins σ s u v x y m H Q hr hf I rl rp rq ru rv hq
  have hu : A.units < cLine := hr.room.units0
  obtain ⟨a, rfl⟩ : ∃ a, x = .ref a := by have r := rp; simp only [RD] at r; obtain ⟨a, _, e, _⟩ := r; exact ⟨a, e⟩
  obtain ⟨a2, rfl⟩ : ∃ a, y = .ref a := by have r := rq; simp only [RD] at r; obtain ⟨a, _, e, _⟩ := r; exact ⟨a, e⟩
  obtain rfl : u = Value.ref a := ru
  obtain rfl : v = Value.ref a2 := rv
  obtain ⟨⟨cls, dd, data, sl⟩, its, k, xs, ho, hc, hd, hv, hrd⟩ := seq_tup I rp
  obtain ⟨⟨cls2, dd2, data2, sl2⟩, its2, k2, ys, ho2, hc2, hd2, hv2, hrd2⟩ := seq_tup I rq
  simp only at hc hd hc2 hd2
  subst hc hd hc2 hd2
  have l1 := hrd.len
  have l2 := hrd2.len
  have l3 := hv.length
  have l4 := hv2.length
  have body : ∀ (R : Result → Shared → Prop), (∀ s' m' H', Inv X pins σ H' s' → Ext m H m' H' → Rel X.K X.mg m' H' h → R (.ok (.ret (.bool (b != ne)))) s') → (∀ e s', X.xe e s' → R (.error e) s') →
      wpAny (model X.prog X.w) A.in1 ((if ne then Builtin.«tuple.__ne__» else Builtin.«tuple.__eq__») ⟨[.ref a, .ref a2], []⟩) (GQ.FinOf X.prog X.w A R) (fun e s' => R (.error e) s') s := by
    intro R hR hE
    refine tuple_eqJ ne a a2 its.toArray its2.toArray k k2 dd dd2 sl sl2 (StI X h n pins σ m H ds es b) (StF X h pins σ m H b) ?_ ?_ ?_ ho ho2 ⟨m, H, I, Ext.refl m H, rl, e⟩
    · rintro i h1 h2 s' ⟨m', H', I', e', r', z⟩
      refine wpAny_mono (turnV (A := A.in1) hr.in1 hf I' r' z (RDs.ext e' _ _ hrd) (RDs.ext e' _ _ hrd2) hv hv2 (by simpa using h1) (by simpa using h2) (Q := fun r s2 => (r = true ∧ StI X h n pins σ m H ds es b (i + 1) s2) ∨ (r = false ∧ StF X h pins σ m H b s2)) (fun s2 m2 H2 i2 e2 r2 z2 => .inl ⟨rfl, m2, H2, i2, e'.trans e2, r2, z2⟩) fun hb s2 m2 H2 i2 e2 r2 => .inr ⟨rfl, hb, m2, H2, i2, e'.trans e2, r2⟩) (fun r s2 z => by simpa using z) fun e s2 z => hE e s2 z
    · rintro s' ⟨m', H', I', e', r', z⟩
      have := eqs_end z (by simp; omega)
      have eb : b = (its.toArray.size == its2.toArray.size) := by
        rw [this]
        simp only [List.size_toArray]
        rw [show ds.length = its.length by omega, show es.length = its2.length by omega]
      rw [← eb]
      exact hR s' m' H' I' e' r'
    · rintro s' ⟨rfl, m', H', I', e', r'⟩
      simpa using hR s' m' H' I' e' r'
  cases ne with
  | false =>
    simp only [Bool.false_eq_true, if_false] at body ⊢
    refine wpAny_richCompare_same_room (T := "tuple") (op := .Eq) ⟨_, ho, rfl⟩ ⟨_, ho2, rfl⟩ F.slot_tuple_eq (GQ.call_here F.slot_tuple_eq ⟨_, ho, rfl⟩ F.entry_tuple_eq (F.args_tuple_eq_2 _ _) ?_) hu
    exact body _ (fun s' m' H' i e' r' => ⟨(fun x => nomatch x), hq s' m' H' i e' r'⟩) fun e s' z => z
  | true =>
    simp only [if_true] at body ⊢
    refine wpAny_richCompare_same_room (T := "tuple") (op := .NotEq) ⟨_, ho, rfl⟩ ⟨_, ho2, rfl⟩ F.slot_tuple_ne (GQ.call_here F.slot_tuple_ne ⟨_, ho, rfl⟩ F.entry_tuple_ne (F.args_tuple_ne_2 _ _) ?_) hu
    exact body _ (fun s' m' H' i e' r' => ⟨(fun x => nomatch x), hq s' m' H' i e' r'⟩) fun e s' z => z
/-- lists: read anew at each turn -/
theorem rc_lst {p q : D} {ds es : List D} {b : Bool} (hp : p = .lst ds ∨ p = .scr ds) (hq' : q = .lst es ∨ q = .scr es) (e : (ds.length ≠ es.length ∧ b = false) ∨ (ds.length = es.length ∧ EqsV X h n ds es b)) : RcV X h (n + 1) p q b := by
  intro ne A pins σ s u v x y m H Q hr hf I rl rp rq ru rv hq
  have hu : A.units < cLine := hr.room.units0
  have sq : ∀ {p : D} {ds : List D} {a : Addr} {s : Shared} {m : List Addr} {H : Hp}, p = .lst ds ∨ p = .scr ds → Inv X pins σ H s → RD X.K X.mg m H p (.ref a) → SeqB X H m s "list" a ds := by
    intro p ds a s m H hp I r
    rcases hp with rfl | rfl
    · exact seq_lst I r
    · exact seq_scr I r
  obtain ⟨a, rfl⟩ : ∃ a, x = .ref a := by have r := rp; rcases hp with rfl | rfl <;> (simp only [RD] at r; obtain ⟨a, _, e, _⟩ := r; exact ⟨a, e⟩)
  obtain ⟨a2, rfl⟩ : ∃ a, y = .ref a := by have r := rq; rcases hq' with rfl | rfl <;> (simp only [RD] at r; obtain ⟨a, _, e, _⟩ := r; exact ⟨a, e⟩)
  obtain rfl : u = Value.ref a := ru
  obtain rfl : v = Value.ref a2 := rv
  obtain ⟨⟨cls, dd, data, sl⟩, its, k, xs, ho, hc, hd, hv, hrd⟩ := sq hp I rp
  obtain ⟨⟨cls2, dd2, data2, sl2⟩, its2, k2, ys, ho2, hc2, hd2, hv2, hrd2⟩ := sq hq' I rq
  simp only at hc hd hc2 hd2
  subst hc hd hc2 hd2
  have l1 := hrd.len
  have l2 := hrd2.len
  have l3 := hv.length
  have l4 := hv2.length
  rcases e with ⟨hl, rfl⟩ | ⟨hl, e⟩
  · have hsz : (its.toArray.size != its2.toArray.size) = true := by simp; omega
    have q0 := hq s m H I (Ext.refl m H) rl
    cases ne with
    | false => exact SeqAt.RcAt.lists_lengths (A := A) (s := s) ⟨_, ho, rfl, _, rfl⟩ ⟨_, ho2, rfl, _, rfl⟩ hsz hu X.prog X.w X.xe _ (by simpa using q0)
    | true => exact SeqAt.RcNeAt.lists_lengths (A := A) (s := s) ⟨_, ho, rfl, _, rfl⟩ ⟨_, ho2, rfl, _, rfl⟩ hsz hu X.prog X.w X.xe _ (by simpa using q0)
  have two : ∀ s' m' H', Inv X pins σ H' s' → Ext m H m' H' → ∃ (j j2 : Nat) (dd dd2 : Option Addr) (sl sl2 : Array (Option Value)) (it it2 : List Value) (zs zs2 : List V), s'.heap.get? a = some { cls := .type "list", dict := dd, data := .seq it.toArray j, slots := sl } ∧ s'.heap.get? a2 = some { cls := .type "list", dict := dd2, data := .seq it2.toArray j2, slots := sl2 } ∧
      it.length = ds.length ∧ it2.length = ds.length ∧ Vals zs it ∧ Vals zs2 it2 ∧ RDs X.K X.mg m' H' ds zs ∧ RDs X.K X.mg m' H' es zs2 := by
    intro s' m' H' I' e'
    obtain ⟨⟨cls, dd, data, sl⟩, its, k, xs, ho, hc, hd, hv, hrd⟩ := sq hp I' (RD.ext e' _ _ rp)
    obtain ⟨⟨cls2, dd2, data2, sl2⟩, its2, k2, ys, ho2, hc2, hd2, hv2, hrd2⟩ := sq hq' I' (RD.ext e' _ _ rq)
    simp only at hc hd hc2 hd2
    subst hc hd hc2 hd2
    have l1 := hrd.len
    have l2 := hrd2.len
    have l3 := hv.length
    have l4 := hv2.length
    exact ⟨k, k2, dd, dd2, sl, sl2, its, its2, xs, ys, ho, ho2, by omega, by omega, hv, hv2, hrd, hrd2⟩
  have body : ∀ (R : Result → Shared → Prop), (∀ s' m' H', Inv X pins σ H' s' → Ext m H m' H' → Rel X.K X.mg m' H' h → R (.ok (.ret (.bool (b != ne)))) s') → (∀ e s', X.xe e s' → R (.error e) s') →
      wpAny (model X.prog X.w) A.in1 ((if ne then Builtin.«list.__ne__» else Builtin.«list.__eq__») ⟨[.ref a, .ref a2], []⟩) (GQ.FinOf X.prog X.w A R) (fun e s' => R (.error e) s') s := by
    intro R hR hE
    refine list_eqJ ne a a2 ds.length (StI X h n pins σ m H ds es b) (StF X h pins σ m H b) ?_ ?_ ?_ ?_ ⟨m, H, I, Ext.refl m H, rl, e⟩
    · rintro i s' hi ⟨m', H', I', e', r', z⟩
      obtain ⟨j, j2, dd, dd2, sl, sl2, it, it2, zs, zs2, g1, g2, s1, s2, v1, v2, r1, r2⟩ := two s' m' H' I' e'
      refine ⟨it.toArray, it2.toArray, ⟨j, j2, dd, dd2, sl, sl2, g1, g2, by simpa using s1, by simpa using s2⟩, fun h1 h2 => ?_⟩
      refine wpAny_mono (turnV (A := A.in1) hr.in1 hf I' r' z r1 r2 v1 v2 (by simpa using h1) (by simpa using h2) (Q := fun r s2 => (r = true ∧ StI X h n pins σ m H ds es b (i + 1) s2) ∨ (r = false ∧ StF X h pins σ m H b s2)) (fun s2 m2 H2 i2 e2 r2 z2 => .inl ⟨rfl, m2, H2, i2, e'.trans e2, r2, z2⟩) fun hb s2 m2 H2 i2 e2 r2 => .inr ⟨rfl, hb, m2, H2, i2, e'.trans e2, r2⟩) (fun r s2 z => by simpa using z) fun e s2 z => hE e s2 z
    · rintro s' ⟨_, m', H', I', e', r'⟩
      obtain ⟨j, j2, dd, dd2, sl, sl2, it, it2, zs, zs2, g1, g2, s1, s2, v1, v2, r1, r2⟩ := two s' m' H' I' e'
      exact ⟨it.toArray, it2.toArray, j, j2, dd, dd2, sl, sl2, g1, g2, by simpa using s1, by simpa using s2⟩
    · rintro s' ⟨m', H', I', e', r', z⟩
      have := eqs_end z (by omega)
      have eb : b = true := by rw [this, hl]; simp
      subst eb
      simpa using hR s' m' H' I' e' r'
    · rintro s' ⟨rfl, m', H', I', e', r'⟩
      simpa using hR s' m' H' I' e' r'
  cases ne with
  | false =>
    simp only [Bool.false_eq_true, if_false] at body ⊢
    refine wpAny_richCompare_same_room (T := "list") (op := .Eq) ⟨_, ho, rfl⟩ ⟨_, ho2, rfl⟩ F.slot_list_eq (GQ.call_here F.slot_list_eq ⟨_, ho, rfl⟩ F.entry_list_eq (F.args_list_eq_2 _ _) ?_) hu
    exact body _ (fun s' m' H' i e' r' => ⟨(fun x => nomatch x), hq s' m' H' i e' r'⟩) fun e s' z => z
  | true =>
    simp only [if_true] at body ⊢
    refine wpAny_richCompare_same_room (T := "list") (op := .NotEq) ⟨_, ho, rfl⟩ ⟨_, ho2, rfl⟩ F.slot_list_ne (GQ.call_here F.slot_list_ne ⟨_, ho, rfl⟩ F.entry_list_ne (F.args_list_ne_2 _ _) ?_) hu
    exact body _ (fun s' m' H' i e' r' => ⟨(fun x => nomatch x), hq s' m' H' i e' r'⟩) fun e s' z => z
/-- an own instance on the left -/
theorem rc_own {j : Nat} {cs : List Str} {tb : Tbl} (F : IsF X.K X.mg cs) (nf : NFF X.K X.mg cs) (o : OwnT X j "__eq__" 2 tb) (on : ∀ p ∈ tb, OwnN X p.1) (hcs : ∀ p ∈ tb, p.1 ∈ cs) {c : Str} {fs : List (Str × D)} {q : D} {b : Bool} (ok : okD cs h q = true) (e : ownE tb h c (.ins c fs) q = some b) : RcV X h (j + 1) (.ins c fs) q b := by
  intro ne A pins σ s u v x y m H Q hr hf I rl rp rq ru rv hq
  unfold ownE at e
  split at e
  · rename_i f hlk
    split at e
    · rename_i b' h' hf'
      split at e
      · rename_i hh
        subst hh
        cases e
        unfold okD at ok
        split at ok
        · rename_i t ht
          obtain ⟨tv, htv, tx⟩ := tyD_ok F rl rq ht ok
          obtain ⟨P, kx, pk, _⟩ := kit_of I rv tx
          have hL : ∀ M : Model, PySem.W.Looks M s.heap (typeOf v) tv := fun M => kx.ty M s.heap I.kIn pk
          have mem := PySem.mem_of_lookup hlk
          obtain ⟨C, fa, fd, ps, hC, hs, hfn, FF, bb, hn⟩ := (o.at hlk).ex
          obtain ⟨hm, hne, _⟩ := (on (c, f) mem).ex C hC
          have hnf := nf.at (hcs _ mem) hC ok htv
          have rp0 := rp
          simp only [RD] at rp
          obtain ⟨a, C', dx, ys, rfl, g, fH, _, rf⟩ := rp
          rw [hC] at g; cases g
          obtain rfl : u = Value.ref a := ru
          obtain ⟨mA, J, _⟩ := ins_get I.hok fH
          obtain ⟨od, J, _⟩ := J.look
          obtain ⟨m0, hF⟩ := I.fr
          have rds : RDs X.K X.mg m H [.ins c fs, q] [.ref a, y] := by
            simp only [RDs]
            exact ⟨_, _, rfl, rp0, _, _, rfl, rq, rfl⟩
          have rvs : Vals [V.ref a, y] [Value.ref a, v] := .cons rfl (.cons rv .nil)
          have call : ∀ (A' : Around), RoomG j A' → A'.frames = X.A.frames → wpAny (model X.prog X.w) A' (call (.ref fa) [.ref a, v]) (fun r s' => r = .bool b ∧ ∃ m' H', Inv X pins σ H' s' ∧ Ext m H m' H' ∧ Rel X.K X.mg m' H' h') X.xe s := by
            intro A' hr' hf''
            refine wpAny_mono (run_own (Q := fun z H' => z = .bl b ∧ ∃ m', Ext m H m' H' ∧ Rel X.K X.mg m' H' h') (Wx := fun _ _ _ => False) FF bb hn hr' hf'' I rvs rl rds rfl (by
              show Po X.K X.mg (RD X.K X.mg) m H (f [D.ins c fs, q] h').st _ _
              rw [hf']
              exact fun m1 H1 v1 e1 r1 rd1 => by
                simp only [RD] at rd1
                exact ⟨rd1, m1, e1, r1⟩)) (fun r s1 ⟨z, H1, I1, rz, ez, m1, e1, r1⟩ => ?_) fun _ _ z => z
            subst ez
            obtain rfl : r = Value.bool b := rz
            exact ⟨rfl, m1, H1, I1, e1, r1⟩
          cases ne with
          | false =>
            simp only [Bool.false_eq_true, if_false]
            refine PySem.W.cmp_K (op := .Eq) hr.room.units0 hF I.ok.mod.kin J (hL _) hnf hs hfn (wpAny_mono (call A (hr.mono (Nat.le_succ _)) hf) (fun r s1 z => ?_) fun _ _ z => z)
            obtain ⟨rfl, m1, H1, I1, e1, r1⟩ := z
            show Q (.bool b) s1
            simpa using hq s1 m1 H1 I1 e1 r1
          | true =>
            simp only [if_true]
            refine ne_KB hr.in1.room.units0 hF I.ok.mod.kin J (hL _) hnf hm hs hfn hne (wpAny_mono (call A.in1 hr.in1 hf) (fun r s1 z => ?_) fun _ _ z => z)
            obtain ⟨rfl, m1, H1, I1, e1, r1⟩ := z
            exact ⟨b, rfl, by simpa using hq s1 m1 H1 I1 e1 r1⟩
        · cases ok
      · cases e
    · cases e
  · cases e
/-- an own instance on the right -/
theorem rc_rfl {j : Nat} {cs : List Str} {tb : Tbl} (_FI : IsF X.K X.mg cs) (nf : NFF X.K X.mg cs) (o : OwnT X j "__eq__" 2 tb) (on : ∀ p ∈ tb, OwnN X p.1) (hcs : ∀ p ∈ tb, p.1 ∈ cs) {c : Str} {fs : List (Str × D)} {q : D} {b : Bool} (hq' : ∀ c fs, q ≠ .ins c fs) (hq2 : ∀ n, q ≠ .ref n) (ok : okD cs h q = true) (e : ownE tb h c (.ins c fs) q = some b) : RcV X h (j + 1) q (.ins c fs) b := by
  intro ne A pins σ s v u y x m H Q hr hf I rl rq rp rv ru hq
  unfold ownE at e
  split at e
  · rename_i f hlk
    split at e
    · rename_i b' h' hf'
      split at e
      · rename_i hh
        subst hh
        cases e
        have mem := PySem.mem_of_lookup hlk
        obtain ⟨C, fa, fd, ps, hC, hs, hfn, FF, bb, hn⟩ := (o.at hlk).ex
        obtain ⟨hm, hne, _⟩ := (on (c, f) mem).ex C hC
        have nfc := nf c (hcs _ mem) C hC
        have rp0 := rp
        simp only [RD] at rp
        obtain ⟨a, C', dx, ys, rfl, g, fH, _, rf⟩ := rp
        rw [hC] at g; cases g
        obtain rfl : u = Value.ref a := ru
        obtain ⟨mA, J, _⟩ := ins_get I.hok fH
        obtain ⟨od, J, _⟩ := J.look
        have hpl : (⟨.ref C, dx, .plain, #[]⟩ : Obj).data = .plain := rfl
        have XK : X.K.In s.heap := I.kIn
        have rds : RDs X.K X.mg m H [.ins c fs, q] [.ref a, y] := by
          simp only [RDs]
          exact ⟨_, _, rfl, rp0, _, _, rfl, rq, rfl⟩
        have rvs : Vals [V.ref a, y] [Value.ref a, v] := .cons rfl (.cons rv .nil)
        have call : ∀ (A' : Around), RoomG j A' → A'.frames = X.A.frames → wpAny (model X.prog X.w) A' (call (.ref fa) [.ref a, v]) (fun r s' => r = .bool b ∧ ∃ m' H', Inv X pins σ H' s' ∧ Ext m H m' H' ∧ Rel X.K X.mg m' H' h') X.xe s := by
          intro A' hr' hf''
          refine wpAny_mono (run_own (Q := fun z H' => z = .bl b ∧ ∃ m', Ext m H m' H' ∧ Rel X.K X.mg m' H' h') (Wx := fun _ _ _ => False) FF bb hn hr' hf'' I rvs rl rds rfl (by
            show Po X.K X.mg (RD X.K X.mg) m H (f [D.ins c fs, q] h').st _ _
            rw [hf']
            exact fun m1 H1 v1 e1 r1 rd1 => by
              simp only [RD] at rd1
              exact ⟨rd1, m1, e1, r1⟩)) (fun r s1 ⟨z, H1, I1, rz, ez, m1, e1, r1⟩ => ?_) fun _ _ z => z
          subst ez
          obtain rfl : r = Value.bool b := rz
          exact ⟨rfl, m1, H1, I1, e1, r1⟩
        have callQ : wpAny (model X.prog X.w) (if ne then A.in1 else A) (PySem.call (.ref fa) [.ref a, v]) (fun v s' => ∃ b, v = .bool b ∧ Q (.bool (b != ne)) s') X.xe s := by
          cases ne with
          | false =>
            simp only [Bool.false_eq_true, if_false]
            refine wpAny_mono (call A (hr.mono (Nat.le_succ _)) hf) (fun r s1 z => ?_) fun _ _ z => z
            obtain ⟨rfl, m1, H1, I1, e1, r1⟩ := z
            exact ⟨b, rfl, hq s1 m1 H1 I1 e1 r1⟩
          | true =>
            simp only [if_true]
            refine wpAny_mono (call A.in1 hr.in1 hf) (fun r s1 z => ?_) fun _ _ z => z
            obtain ⟨rfl, m1, H1, I1, e1, r1⟩ := z
            exact ⟨b, rfl, hq s1 m1 H1 I1 e1 r1⟩
        have hu : A.units + 1 < cLine := hr.in1.room.units0
        have al : Alien X.prog X.w s a ⟨.ref C, dx, .plain, #[]⟩ := ⟨J.at_, rfl, fun n hn => J.type.andThen (PySem.W.looks_subIn XK (nfc.2 n hn).2)⟩
        have go : ∀ (Ta id : String), Ta ∈ tyNames → s.TypeIs v Ta → Slot Ta (if ne then "__ne__" else "__eq__") id → (∀ Q' : Value → Shared → Prop, Q' .notImplemented s → wpAny (model X.prog X.w) A (PySem.call (.builtin id) [v, .ref a]) Q' X.xe s) → wpAny (model X.prog X.w) A (richCompare (if ne then .NotEq else .Eq) v (.ref a)) Q X.xe s :=
          fun Ta id hT ht sl hc => rc_refl hu ht sl hc XK J (nfc.2 Ta hT).2 hm hs hfn hne callQ
        cases q with
        | non =>
          simp only [RD] at rq; subst rq
          cases (show v = Value.none from rv)
          cases ne with
          | false => exact go "NoneType" _ (by decide) rfl F.slot_NoneType_eq fun Q' q => GQ.call_here F.slot_NoneType_eq rfl F.entry_NoneType_eq (F.args_NoneType_eq_2 _ _) (dec_non false q)
          | true => exact go "NoneType" _ (by decide) rfl F.slot_NoneType_ne fun Q' q => GQ.call_here F.slot_NoneType_ne rfl F.entry_NoneType_ne (F.args_NoneType_ne_2 _ _) (dec_non true q)
        | bl z =>
          simp only [RD] at rq; subst rq
          cases (show v = Value.bool z from rv)
          cases ne with
          | false => exact go "bool" _ (by decide) rfl F.slot_bool_eq fun Q' q => GQ.call_here F.slot_bool_eq rfl F.entry_int_eq (F.args_int_eq_2 _ _) (dec_bool false al q)
          | true => exact go "bool" _ (by decide) rfl F.slot_bool_ne fun Q' q => GQ.call_here F.slot_bool_ne rfl F.entry_int_ne (F.args_int_ne_2 _ _) (dec_bool true al q)
        | int z =>
          simp only [RD] at rq; subst rq
          obtain ⟨t, ev⟩ := (show ∃ t, v = Value.int z t from rv)
          subst ev
          cases ne with
          | false => exact go "int" _ (by decide) (typeIs_int s z t) F.slot_int_eq fun Q' q => GQ.call_here F.slot_int_eq (typeIs_int s z t) F.entry_int_eq (F.args_int_eq_2 _ _) (dec_int false al q)
          | true => exact go "int" _ (by decide) (typeIs_int s z t) F.slot_int_ne fun Q' q => GQ.call_here F.slot_int_ne (typeIs_int s z t) F.entry_int_ne (F.args_int_ne_2 _ _) (dec_int true al q)
        | str z =>
          simp only [RD] at rq; subst rq
          obtain ⟨t, ev⟩ := (show ∃ t, v = Value.str z t from rv)
          subst ev
          cases ne with
          | false => exact go "str" _ (by decide) (typeIs_str s z t) F.slot_str_eq fun Q' q => GQ.call_here F.slot_str_eq (typeIs_str s z t) F.entry_str_eq (F.args_str_eq_2 _ _) (dec_str false al q)
          | true => exact go "str" _ (by decide) (typeIs_str s z t) F.slot_str_ne fun Q' q => GQ.call_here F.slot_str_ne (typeIs_str s z t) F.entry_str_ne (F.args_str_ne_2 _ _) (dec_str true al q)
        | tup es =>
          obtain ⟨l, rfl⟩ : ∃ a, y = .ref a := by have r := rq; simp only [RD] at r; obtain ⟨a, _, e, _⟩ := r; exact ⟨a, e⟩
          cases (show v = Value.ref l from rv)
          obtain ⟨⟨cls, dd, data, sl⟩, its, k, xs, ho, hc, hdt, hv, hrd⟩ := seq_tup I rq
          simp only at hc hdt
          subst hc hdt
          cases ne with
          | false => exact go "tuple" _ (by decide) ⟨_, ho, rfl⟩ F.slot_tuple_eq fun Q' q => GQ.call_here F.slot_tuple_eq ⟨_, ho, rfl⟩ F.entry_tuple_eq (F.args_tuple_eq_2 _ _) (dec_tup false al ho q)
          | true => exact go "tuple" _ (by decide) ⟨_, ho, rfl⟩ F.slot_tuple_ne fun Q' q => GQ.call_here F.slot_tuple_ne ⟨_, ho, rfl⟩ F.entry_tuple_ne (F.args_tuple_ne_2 _ _) (dec_tup true al ho q)
        | lst es =>
          obtain ⟨l, rfl⟩ : ∃ a, y = .ref a := by have r := rq; simp only [RD] at r; obtain ⟨a, _, e, _⟩ := r; exact ⟨a, e⟩
          cases (show v = Value.ref l from rv)
          obtain ⟨⟨cls, dd, data, sl⟩, its, k, xs, ho, hc, hdt, hv, hrd⟩ := seq_lst I rq
          simp only at hc hdt
          subst hc hdt
          cases ne with
          | false => exact go "list" _ (by decide) ⟨_, ho, rfl⟩ F.slot_list_eq fun Q' q => GQ.call_here F.slot_list_eq ⟨_, ho, rfl⟩ F.entry_list_eq (F.args_list_eq_2 _ _) (dec_list false al ho q)
          | true => exact go "list" _ (by decide) ⟨_, ho, rfl⟩ F.slot_list_ne fun Q' q => GQ.call_here F.slot_list_ne ⟨_, ho, rfl⟩ F.entry_list_ne (F.args_list_ne_2 _ _) (dec_list true al ho q)
        | scr es =>
          obtain ⟨l, rfl⟩ : ∃ a, y = .ref a := by have r := rq; simp only [RD] at r; obtain ⟨a, _, e, _⟩ := r; exact ⟨a, e⟩
          cases (show v = Value.ref l from rv)
          obtain ⟨⟨cls, dd, data, sl⟩, its, k, xs, ho, hc, hdt, hv, hrd⟩ := seq_scr I rq
          simp only at hc hdt
          subst hc hdt
          cases ne with
          | false => exact go "list" _ (by decide) ⟨_, ho, rfl⟩ F.slot_list_eq fun Q' q => GQ.call_here F.slot_list_eq ⟨_, ho, rfl⟩ F.entry_list_eq (F.args_list_eq_2 _ _) (dec_list false al ho q)
          | true => exact go "list" _ (by decide) ⟨_, ho, rfl⟩ F.slot_list_ne fun Q' q => GQ.call_here F.slot_list_ne ⟨_, ho, rfl⟩ F.entry_list_ne (F.args_list_ne_2 _ _) (dec_list true al ho q)
        | dct es =>
          obtain ⟨l, rfl⟩ : ∃ a, y = .ref a := by have r := rq; simp only [RD] at r; obtain ⟨a, _, e, _⟩ := r; exact ⟨a, e⟩
          cases (show v = Value.ref l from rv)
          obtain ⟨ol, ho, hc⟩ := dct_cls I rq
          cases ne with
          | false => exact go "dict" _ (by decide) ⟨_, ho, hc⟩ F.slot_dict_eq fun Q' q => GQ.call_here F.slot_dict_eq ⟨_, ho, hc⟩ F.entry_dict_eq (F.args_dict_eq_2 _ _) (dec_dict false al ho hc q)
          | true => exact go "dict" _ (by decide) ⟨_, ho, hc⟩ F.slot_dict_ne fun Q' q => GQ.call_here F.slot_dict_ne ⟨_, ho, hc⟩ F.entry_dict_ne (F.args_dict_ne_2 _ _) (dec_dict true al ho hc q)
        | ins c fs => exact absurd rfl (hq' c fs)
        | ref n => exact absurd rfl (hq2 n)
        | exn x c fs => simp only [okD, tyD] at ok; cases ok
      · cases e
    · cases e
  · cases e
theorem rc_datO {j : Nat} {cs : List Str} {tb : Tbl} (F : IsF X.K X.mg cs) (nf : NFF X.K X.mg cs) (o : OwnT X j "__eq__" 2 tb) (on : ∀ p ∈ tb, OwnN X p.1) (hcs : ∀ p ∈ tb, p.1 ∈ cs) {p q : D} {b : Bool} (hp : ∀ c fs, p ≠ .ins c fs) (hp2 : ∀ n, p ≠ .ref n) (hn : j + 1 ≤ n) (e : datO cs tb h p q = some b) : RcV X h n p q b := by
  unfold datO at e
  split at e
  · split at e
    · rename_i ok
      exact (rc_rfl F nf o on hcs hp hp2 ok e).mono hn
    · cases e
  · exact rc_dat e
theorem rc_strd {x : Str} {ks : List (Key × D)} : RcV X h n (.str x) (.dct ks) false := by
  intro ne A pins σ s u v x' y m H Q hr hf I rl rp rq ru rv hq
  simp only [RD] at rp; subst rp
  obtain ⟨t, ev⟩ := (show ∃ t, u = Value.str x t from ru)
  subst ev
  simp only [RD] at rq
  obtain ⟨l, ys, rfl, f, _, _⟩ := rq
  cases (show v = Value.ref l from rv)
  obtain ⟨_, _, vs, _, o, es, ep, h1, h2, h3, _⟩ := I.hok _ _ f
  exact rc_strdict hr.room.units0 h1 h2.1 ⟨_, _, h3⟩ (by simpa using hq s m H I (Ext.refl m H) rl)
mutual
theorem eqA_ok {j : Nat} {cs : List Str} {tb : Tbl} (F : IsF X.K X.mg cs) (nf : NFF X.K X.mg cs) (o : OwnT X j "__eq__" 2 tb) (on : ∀ p ∈ tb, OwnN X p.1) (hcs : ∀ p ∈ tb, p.1 ∈ cs) : ∀ (p q : D) (b : Bool) (n : Nat), eqA cs tb h p q = some b → j + 1 + dep p ≤ n → RcV X h n p q b
  | .ins c fs, q, b, n, e, l => by
    simp only [eqA] at e
    split at e
    · rename_i ok
      exact (rc_own F nf o on hcs ok e).mono (by omega)
    · cases e
  | .tup ds, q, b, n, e, l => by
    simp only [eqA] at e
    split at e
    · rename_i es
      split at e
      · rename_i b' hb
        cases e
        exact rc_dat hb
      · simp only [dep] at l
        obtain ⟨k, rfl⟩ : ∃ k, n = k + 1 := ⟨n - 1, by omega⟩
        exact rc_tup (eqsA_ok F nf o on hcs ds es b k e (by omega))
    · exact rc_datO F nf o on hcs (fun _ _ z => nomatch z) (fun _ z => nomatch z) (by omega) e
  | .lst ds, q, b, n, e, l => by
    simp only [eqA] at e
    split at e
    · rename_i es
      split at e
      · rename_i b' hb
        cases e
        exact rc_dat hb
      · simp only [dep] at l
        obtain ⟨k, rfl⟩ : ∃ k, n = k + 1 := ⟨n - 1, by omega⟩
        split at e
        · rename_i hl
          exact rc_lst (.inl rfl) (.inl rfl) (.inr ⟨hl, eqsA_ok F nf o on hcs ds es b k e (by omega)⟩)
        · rename_i hl
          cases e
          exact rc_lst (.inl rfl) (.inl rfl) (.inl ⟨hl, rfl⟩)
    · exact rc_datO F nf o on hcs (fun _ _ z => nomatch z) (fun _ z => nomatch z) (by omega) e
  | .non, q, b, n, e, l => by simp only [eqA] at e; exact rc_datO F nf o on hcs (fun _ _ z => nomatch z) (fun _ z => nomatch z) (by omega) e
  | .bl _, q, b, n, e, l => by simp only [eqA] at e; exact rc_datO F nf o on hcs (fun _ _ z => nomatch z) (fun _ z => nomatch z) (by omega) e
  | .int _, q, b, n, e, l => by simp only [eqA] at e; exact rc_datO F nf o on hcs (fun _ _ z => nomatch z) (fun _ z => nomatch z) (by omega) e
  | .str _, q, b, n, e, l => by
    simp only [eqA] at e
    split at e
    · cases e
      exact rc_strd
    · exact rc_datO F nf o on hcs (fun _ _ z => nomatch z) (fun _ z => nomatch z) (by omega) e
  | .scr _, q, b, n, e, l => by simp only [eqA] at e; exact rc_dat e
  | .dct _, q, b, n, e, l => by simp only [eqA] at e; exact rc_datO F nf o on hcs (fun _ _ z => nomatch z) (fun _ z => nomatch z) (by omega) e
  | .ref _, q, b, n, e, l => by simp only [eqA] at e; exact rc_dat e
  | .exn _ _ _, q, b, n, e, l => by simp only [eqA] at e; exact rc_dat e
theorem eqsA_ok {j : Nat} {cs : List Str} {tb : Tbl} (F : IsF X.K X.mg cs) (nf : NFF X.K X.mg cs) (o : OwnT X j "__eq__" 2 tb) (on : ∀ p ∈ tb, OwnN X p.1) (hcs : ∀ p ∈ tb, p.1 ∈ cs) : ∀ (ps qs : List D) (b : Bool) (n : Nat), eqsA cs tb h ps qs = some b → j + 1 + deps ps ≤ n → EqsV X h n ps qs b
  | [], qs, b, n, e, l => by
    simp only [eqsA] at e
    cases e
    exact .nil
  | d :: r, qs, b, n, e, l => by
    simp only [eqsA] at e
    simp only [deps] at l
    split at e
    · cases e; exact .lack
    · rename_i e' t
      split at e
      · rename_i he
        exact .yes ((eqA_ok F nf o on hcs d e' true n he (by omega)).eqV (.inl rfl)) (eqsA_ok F nf o on hcs r t b n e (by omega))
      · rename_i he
        split at e
        · rename_i hd
          cases e
          exact .no ((eqA_ok F nf o on hcs d e' false n he (by omega)).eqV (.inr hd))
        · cases e
      · cases e
end
end
end G

/-! G35: x == y, x != y, x in y over such. -/
namespace G
open PySem PySem.Spec PyProof.Rows L2
open PySem.SeqAt PySem.AutoSeq1 PySem.MeetsSeq PySem.MeetsSeq2 PySem.MeetsSeq3 PySem.SeqRoads2
/-- x in ds -/
noncomputable def anyA (cs : List Str) (tb : Tbl) (h : Hs) (x : D) : List D → Option Bool
  | [] => some false
  | d :: r => match eqA cs tb h d x with
    | some true => some true
    | some false => if dst d x = true then anyA cs tb h x r else none
    | none => none
noncomputable def gEqA (cs : List Str) (t : Tbl) : V2 := fun u v h => match eqA cs t h u v with
  | some b => if dep u ≤ 9 then .ok (.bl b) h else .no
  | none => gEqO t u v h
noncomputable def gNeA (cs : List Str) (t : Tbl) : V2 := fun u v h => match eqA cs t h u v with
  | some b => if dep u ≤ 9 then .ok (.bl (!b)) h else .no
  | none => gNeO t u v h
def seqA : D → Option (List D)
  | .tup ds => some ds
  | .lst ds => some ds
  | _ => none
noncomputable def gInA (cs : List Str) (t : Tbl) (neg : Bool) : V2 := fun u v h => match seqA v with
  | some ds => match anyA cs t h u ds with
    | some b => if deps ds ≤ 9 then .ok (.bl (if neg then !b else b)) h else .no
    | none => gIn neg u v h
  | none => gIn neg u v h
theorem gIn_st (neg : Bool) (u v : D) (h : Hs) : (gIn neg u v h).st = gIn neg u v h := by unfold gIn; split <;> rfl
theorem gEqA_st (cs : List Str) (t : Tbl) (u v : D) (h : Hs) : (gEqA cs t u v h).st = gEqA cs t u v h := by
  unfold gEqA
  split
  · split <;> rfl
  · exact gEqO_st _ _ _ _
theorem gNeA_st (cs : List Str) (t : Tbl) (u v : D) (h : Hs) : (gNeA cs t u v h).st = gNeA cs t u v h := by
  unfold gNeA
  split
  · split <;> rfl
  · exact gNeO_st _ _ _ _
theorem gInA_st (cs : List Str) (t : Tbl) (neg : Bool) (u v : D) (h : Hs) : (gInA cs t neg u v h).st = gInA cs t neg u v h := by
  unfold gInA
  split
  · split
    · split <;> rfl
    · exact gIn_st _ _ _ _
  · exact gIn_st _ _ _ _
/-- what is asked of the table -/
structure OwnA (X : Cx) (j : Nat) (cs : List Str) (t : Tbl) : Prop where
  F : IsF X.K X.mg cs
  nf : NFF X.K X.mg cs
  o : OwnT X j "__eq__" 2 t
  on : ∀ p ∈ t, OwnN X p.1
  hcs : ∀ p ∈ t, p.1 ∈ cs
inductive AnyV (X : Cx) (h : Hs) (n : Nat) (q : D) : List D → Bool → Prop
  | nil : AnyV X h n q [] false
  | hit {d : D} {r : List D} : EqV X h n d q true → AnyV X h n q (d :: r) true
  | on {d : D} {r : List D} {b : Bool} : EqV X h n d q false → AnyV X h n q r b → AnyV X h n q (d :: r) b
section
variable {X : Cx} {j : Nat} {cs : List Str} {t : Tbl}
theorem anyA_ok (oa : OwnA X j cs t) {h : Hs} {q : D} : ∀ (ds : List D) (b : Bool) (n : Nat), anyA cs t h q ds = some b → j + 1 + deps ds ≤ n → AnyV X h n q ds b
  | [], b, n, e, l => by
    simp only [anyA] at e; cases e; exact .nil
  | d :: r, b, n, e, l => by
    simp only [anyA] at e
    simp only [deps] at l
    split at e
    · rename_i he
      cases e
      exact .hit ((eqA_ok oa.F oa.nf oa.o oa.on oa.hcs d q true n he (by omega)).eqV (.inl rfl))
    · rename_i he
      split at e
      · rename_i hd
        exact .on ((eqA_ok oa.F oa.nf oa.o oa.on oa.hcs d q false n he (by omega)).eqV (.inr hd)) (anyA_ok oa r b n e (by omega))
      · cases e
    · cases e
theorem op_eqA (oa : OwnA X j cs t) (hr : RoomG (j + 12) X.A) : OpR X (compareOp .Eq) (rd2 X.K X.mg (gEqA cs t)) := by
  intro pins s σ H x y v u Q I rx ry ⟨m, h, p, q, rl, rp, rq, po⟩
  rw [gEqA_st] at po
  unfold gEqA at po
  split at po
  · rename_i b hb
    split at po
    · rename_i hd
      exact eqA_ok oa.F oa.nf oa.o oa.on oa.hcs p q b (j + 12) hb (by omega) false X.A pins σ s v u x y m H _ hr rfl I rl rp rq rx ry fun s' m' H' i e' r' => ⟨V.bl b, H', i, by cases b <;> rfl, by
        exact (po.ext e').ok r' (by simp only [RD])⟩
    · exact po.elim
  · exact op_eqO oa.o (hr.mono (by omega)) pins s σ H x y v u Q I rx ry ⟨m, h, p, q, rl, rp, rq, by rw [gEqO_st]; exact po⟩
theorem op_neA (oa : OwnA X j cs t) (hr : RoomG (j + 12) X.A) : OpR X (compareOp .NotEq) (rd2 X.K X.mg (gNeA cs t)) := by
  intro pins s σ H x y v u Q I rx ry ⟨m, h, p, q, rl, rp, rq, po⟩
  rw [gNeA_st] at po
  unfold gNeA at po
  split at po
  · rename_i b hb
    split at po
    · rename_i hd
      exact eqA_ok oa.F oa.nf oa.o oa.on oa.hcs p q b (j + 12) hb (by omega) true X.A pins σ s v u x y m H _ hr rfl I rl rp rq rx ry fun s' m' H' i e' r' => ⟨V.bl (!b), H', i, by cases b <;> rfl, by
        exact (po.ext e').ok r' (by simp only [RD])⟩
    · exact po.elim
  · exact op_neO oa.o oa.on (hr.mono (by omega)) pins s σ H x y v u Q I rx ry ⟨m, h, p, q, rl, rp, rq, by rw [gNeO_st]; exact po⟩
/-- the i-th item and x -/
theorem turnI {n : Nat} {h : Hs} {A : Around} {pins : List (Addr × Obj)} {σ : Sl} {s : Shared} {m : List Addr} {H : Hp} {ds : List D} {q : D} {b : Bool} {xs : List V} {y : V} {v : Value} {its : List Value} {i : Nat} (hr : RoomG n A) (hf : A.frames = X.A.frames)
    (I : Inv X pins σ H s) (rl : Rel X.K X.mg m H h) (e : AnyV X h n q (ds.drop i) b) (rd : RDs X.K X.mg m H ds xs) (ry : RD X.K X.mg m H q y) (rv : Vals xs its) (rw_ : RelV y v) (h1 : i < its.length)
    {Q : Bool → Shared → Prop} (hF : ∀ s' m' H', Inv X pins σ H' s' → Ext m H m' H' → Rel X.K X.mg m' H' h → AnyV X h n q (ds.drop (i + 1)) b → Q false s') (hT : b = true → ∀ s' m' H', Inv X pins σ H' s' → Ext m H m' H' → Rel X.K X.mg m' H' h → Q true s') :
    wpAny (model X.prog X.w) A (eqBool its[i] v) Q X.xe s := by
  have l1 := rd.len
  have l3 := rv.length
  have d1 : i < ds.length := by omega
  obtain ⟨x, ex, rx⟩ := rd.get (List.getElem?_eq_getElem d1)
  obtain ⟨u, eu, ru⟩ := rv.get ex
  rw [List.getElem?_eq_getElem h1] at eu
  rw [Option.some.inj eu]
  rw [List.drop_eq_getElem_cons d1] at e
  generalize hp : ds[i] = p at *
  generalize ds.drop (i + 1) = r at *
  cases e with
  | hit k => exact k A pins σ s u v x y m H _ hr hf I rl rx ry ru rw_ (hT rfl)
  | on k k2 => exact k A pins σ s u v x y m H _ hr hf I rl rx ry ru rw_ fun s' m' H' i e' r' => hF s' m' H' i e' r' k2
def StA (X : Cx) (h : Hs) (n : Nat) (pins : List (Addr × Obj)) (σ : Sl) (m : List Addr) (H : Hp) (q : D) (ds : List D) (b : Bool) (i : Nat) (s' : Shared) : Prop := ∃ m' H', Inv X pins σ H' s' ∧ Ext m H m' H' ∧ Rel X.K X.mg m' H' h ∧ AnyV X h n q (ds.drop i) b
def StB (X : Cx) (h : Hs) (pins : List (Addr × Obj)) (σ : Sl) (m : List Addr) (H : Hp) (b : Bool) (s' : Shared) : Prop := b = true ∧ ∃ m' H', Inv X pins σ H' s' ∧ Ext m H m' H' ∧ Rel X.K X.mg m' H' h
theorem in_here {prog : Program} {w : World} {A : Around} {E : Value → Shared → Prop} {s : Shared} {T id : String} {B : Builtin} {c x : Value} {Q : Value → Shared → Prop} (hT : s.TypeIs c T) (slot : Slot T "__contains__" id) (entry : entryFor table id = some B) (args : argsOk id ⟨[c, x], []⟩) (neg : Bool)
    (h : wpAny (model prog w) A.in1 (B ⟨[c, x], []⟩) (GQ.FinOf prog w A (wants (fun v s' => ∃ b : Bool, v = .bool b ∧ Q (.bool (if neg then !b else b)) s') E)) (fun e s' => wants (fun v s' => ∃ b : Bool, v = .bool b ∧ Q (.bool (if neg then !b else b)) s') E (.error e) s') s) : wpAny (model prog w) A (compareOp (if neg then .NotIn else .In) x c) Q E s := by
  cases neg with
  | false =>
    show wpAny _ A (do return .bool (← contains c x)) Q E s
    refine wpAny_bind (wpAny_contains_slot hT slot (wpAny_mono (GQ.call_here slot hT entry args h) (fun v s' hv => ?_) fun _ _ e => e))
    obtain ⟨b, rfl, hq⟩ := hv
    exact wpAny_truthy_bool (wpAny_pure hq)
  | true =>
    show wpAny _ A (do return .bool (!(← contains c x))) Q E s
    refine wpAny_bind (wpAny_contains_slot hT slot (wpAny_mono (GQ.call_here slot hT entry args h) (fun v s' hv => ?_) fun _ _ e => e))
    obtain ⟨b, rfl, hq⟩ := hv
    exact wpAny_truthy_bool (wpAny_pure hq)
theorem op_inA (neg : Bool) (oa : OwnA X j cs t) (hr : RoomG (j + 12) X.A) : OpR X (compareOp (if neg then .NotIn else .In)) (rd2 X.K X.mg (gInA cs t neg)) := by
  intro pins s σ H x y v u Q I rx ry ⟨m, h, p, q, rl, rp, rq, po⟩
  rw [gInA_st] at po
  have old : Po X.K X.mg (RD X.K X.mg) m H (gIn neg p q h) Q (fun _ _ _ => False) → wpAny (model X.prog X.w) X.A (compareOp (if neg then .NotIn else .In) v u) (EP X pins σ Q) X.xe s := by
    intro po
    cases neg with
    | false => exact op_inU (hu65 hr.rm) pins s σ H x y v u Q I rx ry (g_in m H h p q x y Q _ rl rp rq po)
    | true => exact op_notInU (hu65 hr.rm) pins s σ H x y v u Q I rx ry (g_in m H h p q x y Q _ rl rp rq po)
  unfold gInA at po
  split at po
  · rename_i ds hds
    split at po
    · rename_i b hb
      split at po
      · rename_i hd
        have any := anyA_ok oa (h := h) ds b (j + 11) hb (by omega)
        have hr1 : RoomG (j + 11) X.A.in1 := hr.in1
        cases q with
        | tup es =>
          cases hds
          obtain ⟨a, rfl⟩ : ∃ a, y = .ref a := by have r := rq; simp only [RD] at r; obtain ⟨a, _, e, _⟩ := r; exact ⟨a, e⟩
          obtain rfl : u = Value.ref a := ry
          obtain ⟨⟨cls, dd, data, sl⟩, its, k, xs, ho, hc, hdt, hv, hrd⟩ := seq_tup I rq
          simp only at hc hdt
          subst hc hdt
          have l1 := hrd.len
          have l3 := hv.length
          refine in_here (s := s) (c := .ref a) (T := "tuple") ⟨_, ho, rfl⟩ F.slot_tuple_contains F.entry_tuple_contains (F.args_tuple_contains_2 _ _) neg ?_
          refine tuple_inJ a its.toArray k dd sl v (StA X h (j + 11) pins σ m H p ds b) (StB X h pins σ m H b) ?_ ?_ ?_ ho ⟨m, H, I, Ext.refl m H, rl, any⟩
          · rintro i h1 s' ⟨m', H', I', e', r', z⟩
            refine wpAny_mono (turnI (A := X.A.in1) hr1 rfl I' r' z (RDs.ext e' _ _ hrd) (RD.ext e' _ _ rp) hv rx (by simpa using h1) (Q := fun r s2 => (r = false ∧ StA X h (j + 11) pins σ m H p ds b (i + 1) s2) ∨ (r = true ∧ StB X h pins σ m H b s2)) (fun s2 m2 H2 i2 e2 r2 z2 => .inl ⟨rfl, m2, H2, i2, e'.trans e2, r2, z2⟩) fun hb s2 m2 H2 i2 e2 r2 => .inr ⟨rfl, hb, m2, H2, i2, e'.trans e2, r2⟩) (fun r s2 z => by simpa using z) fun e s2 z => z
          · rintro s' ⟨m', H', I', e', r', z⟩
            have : ds.drop its.toArray.size = [] := List.drop_eq_nil_of_le (by simp; omega)
            rw [this] at z
            cases z
            exact ⟨false, rfl, V.bl (if neg then !false else false), H', I', by cases neg <;> rfl, (po.ext e').ok r' (by simp only [RD])⟩
          · rintro s' ⟨rfl, m', H', I', e', r'⟩
            exact ⟨true, rfl, V.bl (if neg then !true else true), H', I', by cases neg <;> rfl, (po.ext e').ok r' (by simp only [RD])⟩
        | lst es =>
          cases hds
          obtain ⟨a, rfl⟩ : ∃ a, y = .ref a := by have r := rq; simp only [RD] at r; obtain ⟨a, _, e, _⟩ := r; exact ⟨a, e⟩
          obtain rfl : u = Value.ref a := ry
          obtain ⟨⟨cls, dd, data, sl⟩, its, k, xs, ho, hc, hdt, hv, hrd⟩ := seq_lst I rq
          simp only at hc hdt
          subst hc hdt
          refine in_here (s := s) (c := .ref a) (T := "list") ⟨_, ho, rfl⟩ F.slot_list_contains F.entry_list_contains (F.args_list_contains_2 _ _) neg ?_
          refine list_inJ a v ds.length (StA X h (j + 11) pins σ m H p ds b) (StB X h pins σ m H b) ?_ ?_ ?_ ⟨m, H, I, Ext.refl m H, rl, any⟩
          · rintro i s' hi ⟨m', H', I', e', r', z⟩
            obtain ⟨⟨cls, dd, data, sl⟩, its, k, xs, ho, hc, hdt, hv, hrd⟩ := seq_lst I' (RD.ext e' _ _ rq)
            simp only at hc hdt
            subst hc hdt
            have l1 := hrd.len
            have l3 := hv.length
            refine ⟨its.toArray, k, dd, sl, ho, by simp; omega, fun h1 => ?_⟩
            refine wpAny_mono (turnI (A := X.A.in1) hr1 rfl I' r' z hrd (RD.ext e' _ _ rp) hv rx (by simpa using h1) (Q := fun r s2 => (r = false ∧ StA X h (j + 11) pins σ m H p ds b (i + 1) s2) ∨ (r = true ∧ StB X h pins σ m H b s2)) (fun s2 m2 H2 i2 e2 r2 z2 => .inl ⟨rfl, m2, H2, i2, e'.trans e2, r2, z2⟩) fun hb s2 m2 H2 i2 e2 r2 => .inr ⟨rfl, hb, m2, H2, i2, e'.trans e2, r2⟩) (fun r s2 z => by simpa using z) fun e s2 z => z
          · rintro s' ⟨m', H', I', e', r', z⟩
            have : ds.drop ds.length = [] := List.drop_eq_nil_of_le (Nat.le_refl _)
            rw [this] at z
            cases z
            exact ⟨false, rfl, V.bl (if neg then !false else false), H', I', by cases neg <;> rfl, (po.ext e').ok r' (by simp only [RD])⟩
          · rintro s' ⟨rfl, m', H', I', e', r'⟩
            exact ⟨true, rfl, V.bl (if neg then !true else true), H', I', by cases neg <;> rfl, (po.ext e').ok r' (by simp only [RD])⟩
        | _ => cases hds
      · exact po.elim
    · exact old po
  · exact old po
variable {a b : Expr} {fa fb : SE} {pos : Pos}
theorem re_eqA (oa : OwnA X j cs t) (hr : RoomG (j + 12) X.A) (ha : RE X a fa) (hb : RE X b fb) : RE X (.Compare a [.Eq] [b] pos) (sBin (gEqA cs t) fa fb) := re_cmp (op_eqA oa hr) (op2_rd (gEqA_st cs t)) ha hb
theorem rt_eqA (oa : OwnA X j cs t) (hr : RoomG (j + 12) X.A) (ha : RE X a fa) (hb : RE X b fb) : RT X (.Compare a [.Eq] [b] pos) (sTB (sBin (gEqA cs t) fa fb)) := rt_cmp (op_eqA oa hr) (op2_rd (gEqA_st cs t)) ha hb
theorem re_neA (oa : OwnA X j cs t) (hr : RoomG (j + 12) X.A) (ha : RE X a fa) (hb : RE X b fb) : RE X (.Compare a [.NotEq] [b] pos) (sBin (gNeA cs t) fa fb) := re_cmp (op_neA oa hr) (op2_rd (gNeA_st cs t)) ha hb
theorem rt_neA (oa : OwnA X j cs t) (hr : RoomG (j + 12) X.A) (ha : RE X a fa) (hb : RE X b fb) : RT X (.Compare a [.NotEq] [b] pos) (sTB (sBin (gNeA cs t) fa fb)) := rt_cmp (op_neA oa hr) (op2_rd (gNeA_st cs t)) ha hb
theorem re_inA (oa : OwnA X j cs t) (hr : RoomG (j + 12) X.A) (ha : RE X a fa) (hb : RE X b fb) (hm : behindInMarks .In b = false := by rfl) : RE X (.Compare a [.In] [b] pos) (sBin (gInA cs t false) fa fb) := re_cmp (op_inA false oa hr) (op2_rd (gInA_st cs t false)) ha hb hm
theorem rt_inA (oa : OwnA X j cs t) (hr : RoomG (j + 12) X.A) (ha : RE X a fa) (hb : RE X b fb) (hm : behindInMarks .In b = false := by rfl) : RT X (.Compare a [.In] [b] pos) (sTB (sBin (gInA cs t false) fa fb)) := rt_cmp (op_inA false oa hr) (op2_rd (gInA_st cs t false)) ha hb hm
theorem re_notInA (oa : OwnA X j cs t) (hr : RoomG (j + 12) X.A) (ha : RE X a fa) (hb : RE X b fb) (hm : behindInMarks .NotIn b = false := by rfl) : RE X (.Compare a [.NotIn] [b] pos) (sBin (gInA cs t true) fa fb) := re_cmp (op_inA true oa hr) (op2_rd (gInA_st cs t true)) ha hb hm
theorem rt_notInA (oa : OwnA X j cs t) (hr : RoomG (j + 12) X.A) (ha : RE X a fa) (hb : RE X b fb) (hm : behindInMarks .NotIn b = false := by rfl) : RT X (.Compare a [.NotIn] [b] pos) (sTB (sBin (gInA cs t true) fa fb)) := rt_cmp (op_inA true oa hr) (op2_rd (gInA_st cs t true)) ha hb hm
end
end G

/-! G36: xs * n; str(x), bool(x) of own instances; t.index(x). -/
namespace G
open PySem PySem.Spec PyProof.Rows L2
/-! ### xs * n -/
theorem RDs.rep {K : PySem.W.Frag} {mg : Str → Option Value} {m : List Addr} {H : Hp} {ds : List D} {vs : List V} (r : RDs K mg m H ds vs) : ∀ n : Nat, RDs K mg m H (List.replicate n ds).flatten (List.replicate n vs).flatten
  | 0 => by simp [RDs]
  | n + 1 => by
    rw [List.replicate_succ, List.replicate_succ, List.flatten_cons, List.flatten_cons]
    exact r.append (RDs.rep r n)
def gRep : V2 := fun p q h => match p, q with
  | .lst ds, .int k => if (-(2 ^ 63) ≤ k ∧ k < 2 ^ 63) ∧ ds.length * k.toNat ≤ sizeLine then .ok (.lst (List.replicate k.toNat ds).flatten) h else .no
  | _, _ => .no
def gRepR : V2 := fun p q h => match p, q with
  | .lst ds, .int k => if (-(2 ^ 63) ≤ k ∧ k < 2 ^ 63) ∧ ds.length * k.toNat ≤ sizeLine then .ok (.ref h.length) (h ++ [.lst (List.replicate k.toNat ds).flatten]) else .no
  | _, _ => .no
theorem g_rep {K : PySem.W.Frag} {mg : Str → Option Value} : Op2 K mg gRep rRep := by
  intro m H h p q x y Q Wx rl rp rq po
  unfold gRep at po
  split at po
  · split at po
    · rename_i ds k hk
      simp only [RD] at rp rq
      obtain ⟨a, xs, rfl, f, _, r⟩ := rp
      subst rq
      exact ⟨a, k, xs, rfl, rfl, f, hk.1.1, hk.1.2, by rw [← r.len]; exact hk.2, fun p hp => po.newL rl hp (r.rep _)⟩
    · exact po.elim
  · exact po.elim
theorem g_repR {K : PySem.W.Frag} {mg : Str → Option Value} : Op2 K mg gRepR rRep := by
  intro m H h p q x y Q Wx rl rp rq po
  unfold gRepR at po
  split at po
  · split at po
    · rename_i ds k hk
      simp only [RD] at rp rq
      obtain ⟨a, xs, rfl, f, _, r⟩ := rp
      subst rq
      exact ⟨a, k, xs, rfl, rfl, f, hk.1.1, hk.1.2, by rw [← r.len]; exact hk.2, fun p hp => po.newR rl hp (r.rep _)⟩
    · exact po.elim
  · exact po.elim
section
variable {X : Cx} {a b : Expr} {fa fb : SE} {pos : Pos}
theorem re_rep (ha : RE X a fa) (hb : RE X b fb) : RE X (.BinOp a .Mult b pos) (sBin gRep fa fb) := re_bin op_rep g_rep ha hb
theorem re_repR (ha : RE X a fa) (hb : RE X b fb) : RE X (.BinOp a .Mult b pos) (sBin gRepR fa fb) := re_bin op_rep g_repR ha hb
end
/-! ### str(x) -/
def strR (r : R D) : R D := r.bind fun d h => match d with
  | .str t => .ok (.str t) h
  | _ => .no
def gStrO (t : Tbl) : VA := fun ds h => match ds with
  | [d] => match asIns d h with
    | some (c, _) => match t.lookup c with
      | some f => strR (f [d] h).st
      | none => .no
    | none => gStr [d] h
  | _ => .no
section
variable {X : Cx} {j : Nat} {t : Tbl}
theorem call_strO (o : OwnT X j "__str__" 1 t) (hr : RoomG (j + 2) X.A) : CallR X (.type "str") (rdA X.K X.mg (gStrO t)) := by
  intro pins s σ H xs us Q I rv ⟨m, h, ds, rl, rd, Wx, po⟩
  unfold gStrO at po
  split at po
  · rename_i d
    obtain ⟨v, rfl, rd1⟩ := rd.one
    obtain ⟨u, rfl, ru⟩ := rv.one
    split at po
    · rename_i c fs e
      split at po
      · rename_i f hf
        obtain ⟨C, fa, fd, ps, hC, hs, hfn, F, b, hn⟩ := (o.at hf).ex
        obtain ⟨a, C1, dx, ys, rfl, g1, fH1, _⟩ := asIns_ok rl rd1 e
        rw [hC] at g1
        cases g1
        obtain rfl : u = Value.ref a := ru
        obtain ⟨mA, J, _⟩ := ins_get I.hok fH1
        obtain ⟨od, J, _⟩ := J.look
        have rds : RDs X.K X.mg m H [d] [.ref a] := by
          simp only [RDs]
          exact ⟨_, _, rfl, rd1, rfl⟩
        have rvs : Vals [V.ref a] [Value.ref a] := .cons rfl .nil
        have po' := Po.bind (rel := RD X.K X.mg) (po : Po X.K X.mg (RD X.K X.mg) m H ((f [d] h).st.bind _) Q Wx)
        refine PySem.W.kso_call hr.in1.in1.room.units0 I.kIn J hs hfn (wpAny_mono (run_own (A := X.A.in1.in1) F b hn hr.in1.in1 rfl I rvs rl rds rfl po') (fun r s1 ⟨z, H1, I1, rz, m1, d, h1, e1, r1, rd, p1⟩ => ?_) fun _ _ z => z)
        cases d with
        | str y =>
          simp only [RD] at rd
          subst rd
          obtain ⟨tk, rfl⟩ := (show ∃ tk, r = Value.str y tk from rz)
          exact ⟨V.str y, H1, I1, ⟨_, rfl⟩, p1.ok r1 (by simp only [RD])⟩
        | _ => exact False.elim p1
      · exact po.elim
    · exact (call_str_int.or SkE.call_str_str) pins s σ H _ _ Q I rv (g_str m H h _ _ Q _ rl rd po)
  · exact po.elim
theorem rb_strO {e : Expr} {es : List Expr} {p pos : Pos} {fa : SA} (o : OwnT X j "__str__" 1 t) (hr : RoomG (j + 2) X.A) (hg : Gl X "str") (hm : X.mg "str" = none) (ha : RA X (e :: es) fa) (he : starEach (e :: es) X.env = (false, eval e X.env) :: starEach es X.env := by rfl) (hpl : (backTo pos (starEach es X.env)).any (·.1) = false := by rfl) :
    RE X (.Call (.Name "str" p) (e :: es) [] pos) (sCallB (gStrO t) fa) := re_callTy (call_strO o hr) rdA_ok hg hm (by decide +kernel) ha (by decide) (by decide) he hpl
end
/-! ### bool(x) -/
def boolR (r : R D) : R D := r.bind fun d h => match d with
  | .int n => if 0 ≤ n ∧ n < 2 ^ 63 then .ok (.bl (n != 0)) h else .no
  | _ => .no
def gBoolO (t : Tbl) : VA := fun ds h => match ds with
  | [d] => match asIns d h with
    | some (c, _) => match t.lookup c with
      | some f => boolR (f [d] h).st
      | none => .no
    | none => .no
  | _ => .no
section
variable {prog : Program} {w : World} {A : Around} {E : Value → Shared → Prop} {s : Shared}
theorem bool_truthy {x : Value} {Q : Value → Shared → Prop} (h : wpAny (model prog w) A.in1.in1 (truthy x) (fun b s' => Q (.bool b) s') E s) : wpAny (model prog w) A (call (.type "bool") [x]) Q E s := by
  refine callType_codes (T := "bool") (Bi := Builtin.«object.__init__») (Q₁ := fun r s₁ => ∃ b, r = .bool b ∧ Q r s₁) PySem.F.called_bool (PySem.F.typeCall_bool_1 _) PySem.F.entry_object_init ?_ ?_
  · refine codeAny_of_tree ?_
    show wpAny _ A.in1.in1 (do checkBuiltinCall "bool.__new__" ⟨[.type "bool", x], []⟩; again (.builtin "bool.__new__" ⟨[.type "bool", x], []⟩)) _ _ s
    refine wpAny_bind (wpAny_of_eq (PySem.F.newCall_bool_1 _) (wpAny_pure ⟨plainId_quiet (by decide +kernel) _, codeAny_builtin PySem.F.entry_bool_new ?_⟩))
    rw [Around.under_plainId (by decide +kernel) _]
    obtain ⟨hp, g, d, tk, os⟩ := s
    have f1 := PySem.F.conv_sub_bool
    have f2 : ∀ {R : Bool → Shared → Prop} {E' : Value → Shared → Prop}, wpAny (model prog w) A.in1.in1 (truthy x) R E' ⟨hp, g, d, tk, os⟩ → wpAny (model prog w) A.in1.in1 (truthy x) R E' ⟨hp, g, d, tk, os⟩ := fun h => h
    unfold Builtin.«bool.__new__»
    repeat (any_goals (first | assumption | (refine wpAny_bind (m := truthy x) (wpAny_mono h (fun b s' q => ?_) fun _ _ z => z)) | wp_step))
    all_goals exact ⟨_, rfl, q⟩
  · rintro obj s₁ ⟨b, rfl, hq⟩
    exact ⟨rfl, PySem.F.args_object_init_2 _ _, object_init_meets PySem.F.called_bool.init.lookup PySem.F.called_bool.made (by decide) prog w A.in1 _ s₁ ⟨rfl, rfl, hq⟩⟩
end
section
variable {X : Cx} {j : Nat} {t : Tbl}
theorem boolR_st (r : R D) : (boolR r.st).st = boolR r.st := bind_st _ _ fun a h => by
  split
  · split <;> rfl
  · rfl
theorem call_boolO (o : OwnT X j "__len__" 1 t) (on : ∀ p ∈ t, OwnN X p.1) (hr : RoomG (j + 3) X.A) : CallR X (.type "bool") (rdA X.K X.mg (gBoolO t)) := by
  intro pins s σ H xs us Q I rv ⟨m, h, ds, rl, rd, Wx, po⟩
  unfold gBoolO at po
  split at po
  · rename_i d
    obtain ⟨v, rfl, rd1⟩ := rd.one
    obtain ⟨u, rfl, ru⟩ := rv.one
    split at po
    · rename_i c fs e
      split at po
      · rename_i f hf
        obtain ⟨C, fa, fd, ps, hC, hs, hfn, F, b, hn⟩ := (o.at hf).ex
        obtain ⟨_, _, hb⟩ := (on (c, f) (PySem.mem_of_lookup hf)).ex C hC
        obtain ⟨a, C1, dx, ys, rfl, g1, fH1, _⟩ := asIns_ok rl rd1 e
        rw [hC] at g1
        cases g1
        obtain rfl : u = Value.ref a := ru
        obtain ⟨mA, J, _⟩ := ins_get I.hok fH1
        obtain ⟨od, J, _⟩ := J.look
        obtain ⟨m0, hF⟩ := I.fr
        have rds : RDs X.K X.mg m H [d] [.ref a] := by
          simp only [RDs]
          exact ⟨_, _, rfl, rd1, rfl⟩
        have rvs : Vals [V.ref a] [Value.ref a] := .cons rfl .nil
        have po' := Po.bind (rel := RD X.K X.mg) (po : Po X.K X.mg (RD X.K X.mg) m H ((f [d] h).st.bind _) Q Wx)
        refine bool_truthy (truthy_len_K hF I.ok.mod.kin J hb hs hfn (wpAny_mono (run_own (A := X.A.in1.in1.in1) F b hn hr.in1.in1.in1 rfl I rvs rl rds rfl po') (fun r s1 ⟨z, H1, I1, rz, m1, d, h1, e1, r1, rd, p1⟩ => ?_) fun _ _ z => z))
        cases d with
        | int n =>
          simp only [RD] at rd
          subst rd
          obtain ⟨tk, rfl⟩ := (show ∃ tk, r = Value.int n tk from rz)
          have p2 : Po X.K X.mg (RD X.K X.mg) m1 H1 (if 0 ≤ n ∧ n < 2 ^ 63 then R.ok (D.bl (n != 0)) h1 else R.no) Q Wx := p1
          by_cases hz : 0 ≤ n ∧ n < 2 ^ 63
          · rw [if_pos hz] at p2
            exact ⟨hz, n, _, rfl, V.bl (n != 0), H1, I1.tok _, rfl, p2.ok r1 (by simp only [RD])⟩
          · rw [if_neg hz] at p2
            exact p2.elim
        | _ => exact False.elim p1
      · exact po.elim
    · exact po.elim
  · exact po.elim
theorem rb_boolO {e : Expr} {es : List Expr} {p pos : Pos} {fa : SA} (o : OwnT X j "__len__" 1 t) (on : ∀ p ∈ t, OwnN X p.1) (hr : RoomG (j + 3) X.A) (hg : Gl X "bool") (hm : X.mg "bool" = none) (ha : RA X (e :: es) fa) (he : starEach (e :: es) X.env = (false, eval e X.env) :: starEach es X.env := by rfl) (hpl : (backTo pos (starEach es X.env)).any (·.1) = false := by rfl) :
    RE X (.Call (.Name "bool" p) (e :: es) [] pos) (sCallB (gBoolO t) fa) := re_callTy (call_boolO o on hr) rdA_ok hg hm (by decide +kernel) ha (by decide) (by decide) he hpl
end
end G

/-! G37: range(a, b, -1). -/
namespace G
open PySem PySem.Spec PyProof.Rows L2
def rngM (a b : Int) : List D := (List.range (a - b).toNat).map fun i : Nat => D.int (a - (i : Nat))
def iRgM (f g k : SE) : SI := fun ρ h => (f ρ h).bind fun d h1 => (g ρ h1).bind fun d2 h2 => (k ρ h2).bind fun d3 h3 => match d, d2, d3 with
  | .int a, .int b, .int c => if (inR a ∧ inR b) ∧ c = -1 then .ok (rngM a b, rel0) h3 else .no
  | _, _, _ => .no
theorem itok_rngM {K : PySem.W.Frag} {mg : Str → Option Value} {m : List Addr} {H : Hp} {a b : Int} : ItOk K mg m H (Itc a (-1) (a - b).toNat) (rngM a b, rel0) := fun m2 H2 h2 e2 r2 _ i => by
  refine ⟨fun d hd => ?_, fun hl => ?_⟩
  · have hd' : ((List.range (a - b).toNat).map fun i : Nat => D.int (a - (i : Nat)))[i]? = some d := hd
    simp only [List.getElem?_map, Option.map_eq_some_iff] at hd'
    obtain ⟨c, hc, rfl⟩ := hd'
    obtain ⟨hl, hc'⟩ := List.getElem?_eq_some_iff.mp hc
    rw [List.getElem_range] at hc'
    subst hc'
    rw [List.length_range] at hl
    refine ⟨hl, fun x H3 ⟨e3, hx⟩ => ?_⟩
    subst e3
    refine ⟨Ext.refl _ _, r2, ?_⟩
    simp only [RD]
    rw [hx]
    congr 1
    omega
  · have hl' : (rngM a b).length ≤ i := hl
    unfold rngM at hl'
    rw [List.length_map, List.length_range] at hl'
    exact hl'
section
variable {X : Cx} {tg a b c : Expr} {p pos : Pos} {fa fb fc : SE}
theorem ri_rgM (hg : Gl X "range") (hm : X.mg "range" = none) (ha : RE X a fa) (hb : RE X b fb) (hc : RE X c fc) (hs : starEach [a, b, c] X.env = (false, eval a X.env) :: starEach [b, c] X.env := by rfl)
    (hs2 : starEach [b, c] X.env = (false, eval b X.env) :: starEach [c] X.env := by rfl) (hs3 : starEach [c] X.env = [(false, eval c X.env)] := by rfl) (hpl : (backTo pos (starEach [b, c] X.env)).any (·.1) = false := by rfl) : RI X tg (.Call (.Name "range" p) [a, b, c] [] pos) (iRgM fa fb fc) :=
  ⟨fun W tk => pi_imp (pi_range3 hg hm (pa_cons (ha.run W tk) (pa_cons (hb.run W tk) (pa_cons (hc.run W tk) pa_nil hs3) hs2) hs) hs hpl) fun σ H Rr ⟨m, ρ, h, rl, en, p⟩ => ⟨m, ρ, h, rl, en, p.bind.mono (fun v H1 ⟨m1, d, h1, e1, r1, ra, p1⟩ =>
    ⟨m1, ρ, h1, r1, en.ext e1, p1.bind.mono (fun v2 H2 ⟨m2, d2, h2, e2, r2, rb, p2⟩ => 
    ⟨m2, ρ, h2, r2, (en.ext e1).ext e2, p2.bind.mono (fun v3 H3 ⟨m3, d3, h3, e3, r3, rc, p3⟩ => by
    cases d with
    | int i =>
      cases d2 with
      | int j =>
        cases d3 with
        | int k =>
          simp only [RD] at ra rb rc
          subst ra rb rc
          dsimp only at p3
          split at p3
          · rename_i hj
            obtain ⟨⟨h1, h2⟩, rfl⟩ := hj
            exact ⟨i, j, -1, _, rfl, RgC.neg h1.1 h1.2 h2.1 h2.2, p3.ok (b := Itc i (-1) (i - j).toNat) r3 (itok_rngM (m := m3) (H := H3))⟩
          · exact p3.elim
        | _ => exact False.elim p3
      | _ => exact False.elim p3
    | _ => exact False.elim p3) fun _ _ _ z => z⟩) fun _ _ _ z => z⟩) fun _ _ _ z => z⟩⟩
end
section
variable {ρ : Ev} {h : Hs} {E : D → Hs → Prop} {fa fb fc : SE}
theorem w_rgM {Q : (List D × (Hs → Prop)) → Hs → Prop} (q : (fa ρ h).xp E fun d h1 => ∃ a, d = .int a ∧ (fb ρ h1).xp E fun d h2 => ∃ b, d = .int b ∧ (fc ρ h2).xp E fun d h3 => d = .int (-1) ∧ (G.inR a ∧ G.inR b) ∧ Q (rngM a b, rel0) h3) : (iRgM fa fb fc ρ h).xp E Q :=
  w_bind (q.mono fun d h1 ⟨a, e, z⟩ => w_bind (z.mono fun d2 h2 ⟨b, e2, z2⟩ => w_bind (z2.mono fun d3 h3 ⟨e3, o, z3⟩ => by
    subst e e2 e3
    show R.xp (if (G.inR a ∧ G.inR b) ∧ (-1 : Int) = -1 then R.ok (rngM a b, rel0) h3 else .no) E Q
    rw [if_pos ⟨o, rfl⟩]
    exact z3)))
end
end G

/-! G38: sorted({text for target in iter if ..}) -/
namespace G
open PySem PySem.Spec PyProof.Rows L2
section
variable {P : Program} {w : World} {A : Around} {E : Value → Shared → Prop} {s : Shared} {a : Addr} {xs : List Str}
/-- found.add(text) -/
theorem addc_tx {y : Str} {tk : Tok} {Q : Value → Shared → Prop} (r : SetX w s.heap a xs) (room : xs.length + 1 < scanBound) (k : ∀ g, Heap.SameBut a s.heap g → SetX w g a (if y ∈ xs then xs else xs ++ [y]) → Q .none { s with heap := g, toks := s.toks + 1 }) :
    wpAny (model P w) A (call (.builtin "set.add") [.ref a, .str y tk]) Q E s := by
  have hT : s.TypeIs (.ref a) "set" := by
    obtain ⟨o, es, ep, t, ho, hx, _⟩ := r
    exact ⟨o, ho, hx.1⟩
  refine wpAny_call_entry F.slot_set_add hT F.entry_set_add ?_ (F.args_set_add_2 _ _)
  unfold Builtin.«set.add» Builtin.Frozenset.oneOther
  simp only [List.isEmpty_nil, bind_assoc]
  unfold Builtin.Frozenset.addrOf setAdd
  refine wpAny_bind (wpAny_pure ?_)
  try dsimp only
  refine wpAny_bind (wpAny_pure ?_)
  try dsimp only
  refine wpAny_bind ?_
  refine wpAny_holding ?_
  refine wpAny_bind ((PySem.strKind P w).pyHash (k := y) (strKind_is _ _ _ _) ?_)
  refine add_tx (s := { s with toks := s.toks + 1 }) r room fun b g c r2 => ?_
  show wpAny _ _ (ret Value.none) _ _ _
  exact wpAny_pure ⟨_, rfl, k g c r2⟩
end
/-- an object that stood untracked, new since s2, is tracked -/
theorem un_adopt {fs fp : List Addr} {H2 H5 : Hp} {h2 h3 h6 : Heap} {D : Addr} {o : HO} (u : Un fs (D :: fp) H2 H5 h3 h6) (k : ∀ b ob, h2.get? b = some ob → h3.get? b = some ob) (hD : h2.objs.size ≤ D) (n5 : H5 D = none) : Un fs fp H2 (upd H5 D o) h2 h6 where
  keep := fun b ob q n hb hx => u.keep b ob (k b ob q) n hb fun z => (List.mem_cons.mp z).elim (fun e => absurd (Heap.lt_size q) (by rw [e]; exact Nat.not_lt.mpr hD)) hx
  slot := fun b ob q n hb hx => u.slot b ob (k b ob q) n hb fun z => (List.mem_cons.mp z).elim (fun e => absurd (Heap.lt_size q) (by rw [e]; exact Nat.not_lt.mpr hD)) hx
  free := fun b ob q n hx => by
    have ne : b ≠ D := fun e => absurd (Heap.lt_size q) (by rw [e]; exact Nat.not_lt.mpr hD)
    rw [upd_ne ne]
    exact u.free b ob (k b ob q) n fun z => (List.mem_cons.mp z).elim ne hx
  there := fun b ob q hx => u.there b ob (k b ob q) fun z => (List.mem_cons.mp z).elim (fun e => absurd (Heap.lt_size q) (by rw [e]; exact Nat.not_lt.mpr hD)) hx
  tups := fun b xs e => by
    have := u.tups b xs e
    rw [upd_ne (ne_of_none this n5)]; exact this
  frzs := fun b ob v e => by
    have := u.frzs b ob v e
    rw [upd_ne (ne_of_none this n5)]; exact this
  tbls := fun b ps e => by
    obtain ⟨more, this⟩ := u.tbls b ps e
    exact ⟨more, by rw [upd_ne (ne_of_none this n5)]; exact this⟩
theorem hok_adopt {P : Program} {w : World} {H : Hp} {h : Heap} {D : Addr} {o : HO} (x : HOk P w H h) (hn : H D = none) (new : ObjOk P w (upd H D o) h D o) : HOk P w (upd H D o) h := fun b u e => by
  by_cases hb : b = D
  · subst hb; rw [upd_same] at e; cases e; exact new
  · rw [upd_ne hb] at e
    exact (x b u e).stay (fun c v _ q => q) (fun c q => by rw [upd_ne (ne_of_none q hn)]; exact q) fun c xs q => by rw [upd_ne (ne_of_none q hn)]; exact q
theorem txO_new {P : Program} {w : World} {H : Hp} {h : Heap} {D : Addr} {xs : List Str} (r : SetX w h D xs) : ObjOk P w H h D (TxO w D xs) := by
  obtain ⟨o, _, _, _, ho, _⟩ := id r
  exact ⟨r, ⟨o, ho⟩, fun h1 h2 p z => SetX.keep p z⟩
section
variable {X : Cx}
/-- {elt for target in iter if ..}, elt a text: D the new set, not tracked before the end -/
def tScX (w : World) (wi : TI) (g : TG) (tt : TT) (te : TE) (vs : List Nat) : TE := fun σ H Q => wi σ H fun J H1 => ∀ D, H1 D = none → ∃ W : Nat → Nat → List Str → Hp → Prop, (∃ m, W 0 m [] H1) ∧ ∀ i m xs H, W i m xs H → H D = none →
  (J.stop i H ∧ Q (.ref D) (upd H D (TxO w D xs))) ∨ (J.go i H ∧ ∃ Nx : List Str → Hp → Prop, (∀ xs' H', Nx xs' H' → ∃ m', m' < m ∧ W (i + 1) m' xs' H') ∧ ∀ x H', J.yld i H x H' → g x (wipe σ vs) H' fun σ2 H2 => wipe σ2 vs = wipe σ vs ∧ tt σ2 H2 fun b H3 =>
    if b = true then te σ2 H3 fun y H4 => ∃ c : Str, y = .str c ∧ xs.length + 1 < scanBound ∧ Nx (if c ∈ xs then xs else xs ++ [c]) H4 else Nx xs H3)
theorem scx_core {pins : List (Addr × Obj)} {s : Shared} {σ : L2.St} {H : Hp} {Q : VK} {elt tg iter : Expr} {ifs : List Expr} {scope : Scope} {own : List (PySem.Str × Nat)} {pos pos' : Pos} {wi : TI} {g : TG} {tt : TT} {te : TE} {use : Option (Value → Sem Unit)} {Qf : Value → Shared → Prop}
    (hc : X.calm = true) (hN : X.N.Nodup) (I : Inv X pins σ H s) (hi : PI X tg iter wi) (ok : BlkOk X.N X.env.scope scope own)
    (hg : ∀ (s : Shared) (H : Hp) (C : Addr) (cl : List (PySem.Str × Addr)) (fp : List Addr), PG (X.blk s H scope (compEnvC scope cl C X.env) fp) tg g) (ht : ∀ (s : Shared) (H : Hp) (C : Addr) (cl : List (PySem.Str × Addr)) (fp : List Addr), PTs (X.blk s H scope (compEnvC scope cl C X.env) fp) ifs tt)
    (he : ∀ (s : Shared) (H : Hp) (C : Addr) (cl : List (PySem.Str × Addr)) (fp : List Addr), PE (X.blk s H scope (compEnvC scope cl C X.env) fp) elt te) (hs : ∀ x, foldedSetIterable iter X.env x = pure x)
    (h : tScX X.w wi g tt te (own.map (·.2)) σ H Q)
    (hRR : ∀ D C s' m H', Inv X pins σ H' s' → Q (.ref D) H' → s'.heap.Ns C m → FpOk X pins H' C → compPost (model X.prog X.w) X.A X.xe use Qf (.ref D) C (.ok .next) s') :
    wpAny (model X.prog X.w) X.A (comprehension (.SetComp elt [⟨tg, iter, ifs, 0⟩] scope pos) scope X.env pos' (newSet (.type "set")) false (eval iter X.env) use) Qf X.xe s := by
  have hfree : ∀ y ∈ scope.names, y.2 = .free → ∃ c, X.env.cells.lookup y.1 = some c := fun y hy e => (ok.free y hy e).elim (fun k => I.ok.has _ (.inl k)) fun k => I.ok.has _ (.inr k)
  refine wpAny_comprehension_free (use := use) rfl hs (closure_ok hfree) ok.kind (fun y hy e => by rw [ok.uniq y hy, e])
    (thn (hi.run pins s σ H _ I h) fun xv s1 hx => thn hx fun itv s2 h2 => ?_)
  obtain ⟨it, fp, tn, J, H2, rfl, I2, T, st2, f2, q⟩ := h2
  refine PpSet.newSet_ok (newEnv_comp ?_)
  generalize hD : s2.heap.objs.size = D
  have hDn : H2 D = none := I2.hok.fresh (Nat.le_of_eq hD)
  obtain ⟨W, ⟨m0, w0⟩, turn⟩ := q D hDn
  generalize hs3 : ({ s2 with heap := s2.heap.push { cls := .type "set", dict := none, data := .set #[] 0 (.fresh 0 0 (!X.w.params.followText "set-order")) } } : Shared) = s3
  have h3 : s3.heap = s2.heap.push (noTx X.w) := by rw [← hs3]
  have k3 : ∀ b o, s2.heap.get? b = some o → s3.heap.get? b = some o := fun b o e => by rw [h3]; exact Heap.get?_push_of_some _ e
  have I3 : Inv X pins σ H2 s3 := by
    rw [← hs3]
    exact I2.kept (t' := s2.toks) fun b o e => Heap.get?_push_of_some _ e
  have x3 : SetX X.w s3.heap D [] := setX_no (by rw [h3, ← hD]; exact Heap.get?_push_size _ rfl)
  have szD : D < s3.heap.objs.size := by rw [h3, Heap.size_push, hD]; exact Nat.lt_succ_self D
  have sz : ∀ b ∈ fp, b < D := fun b hb => by
    obtain ⟨o, e, _⟩ := T.obj _ _ st2 b hb
    rw [← hD]
    exact Heap.lt_size e
  have fD : FpOk X pins H2 D := I2.fpOk (Nat.le_of_eq hD) hDn
  have f3 : ∀ b ∈ D :: fp, FpOk X pins H2 b ∧ b < s3.heap.objs.size := fun b hb => by
    rcases List.mem_cons.mp hb with rfl | hb
    · exact ⟨fD, szD⟩
    · exact ⟨f2 b hb, Nat.lt_trans (sz b hb) szD⟩
  have nDfp : D ∉ fp := fun z => absurd (sz D z) (Nat.lt_irrefl D)
  have st3 : tn 0 s3.heap := T.keep _ _ _ st2 fun b _ o e => k3 b o e
  have I4 := block_start I3 ok hN f3
  have pg := hg s3 H2 s3.heap.objs.size (cellsFrom (s3.heap.objs.size + 1) scope.names (cloFrom X.env.cells scope.names [])) (D :: fp)
  have pt := ht s3 H2 s3.heap.objs.size (cellsFrom (s3.heap.objs.size + 1) scope.names (cloFrom X.env.cells scope.names [])) (D :: fp)
  have pe := he s3 H2 s3.heap.objs.size (cellsFrom (s3.heap.objs.size + 1) scope.names (cloFrom X.env.cells scope.names [])) (D :: fp)
  show codeAny _ _ (.compStart (.SetComp elt [⟨tg, iter, ifs, 0⟩] scope pos) 0 (.ref it) (.ref D) (compEnvC scope (cellsFrom (s3.heap.objs.size + 1) scope.names (cloFrom X.env.cells scope.names [])) s3.heap.objs.size X.env)) (compPost (model X.prog X.w) X.A X.xe use Qf (.ref D) s3.heap.objs.size) { s3 with heap := pushCells (s3.heap.push { cls := .type "dict", data := .dict #[] }) scope.names }
  have nfp : ∀ b ∈ D :: fp, H2 b = none := fun b hb => (f3 b hb).1.1
  generalize hce : compEnvC scope (cellsFrom (s3.heap.objs.size + 1) scope.names (cloFrom X.env.cells scope.names [])) s3.heap.objs.size X.env = ce at I4 pg pt pe ⊢
  have cL : ce.locals = s3.heap.objs.size := by subst hce; rfl
  generalize hs4 : ({ s3 with heap := pushCells (s3.heap.push { cls := .type "dict", data := .dict #[] }) scope.names } : Shared) = s4 at I4 ⊢
  have k4 : ∀ b o, s3.heap.get? b = some o → s4.heap.get? b = some o := fun b o e => by rw [← hs4]; exact pushCells_keeps _ _ _ _ (Heap.get?_push_of_some _ e)
  have st4 : tn 0 s4.heap := T.keep _ _ _ st3 fun b _ o e => k4 b o e
  have x4 : SetX X.w s4.heap D [] := x3.keep fun o e => k4 D o e
  have stat : ∀ {σ' : L2.St} {H' : Hp} {s' : Shared}, Inv (X.blk s3 H2 scope ce (D :: fp)) [] σ' H' s' → (∀ b ∈ D :: fp, H' b = none) → ∀ b ∈ D :: fp, FpOk (X.blk s3 H2 scope ce (D :: fp)) [] H' b := fun {σ' H' s'} I' hn b hb =>
    ⟨hn b hb, (I'.ok.exf b hb).1, I'.ok.exfs b hb, .inl hb, fun x c e => (I'.ok.exf b hb).2 x c e, fun p hp => absurd (show p ∈ ([] : List (Addr × Obj)) ++ [] from hp) (by simp)⟩
  have loop : codeAny (model X.prog X.w) X.A (.compLoop (.SetComp elt [⟨tg, iter, ifs, 0⟩] scope pos) 0 (.ref it) (.ref D) ce) (compPost (model X.prog X.w) X.A X.xe use Qf (.ref D) s3.heap.objs.size) s4 := by
    refine PpSet.compLoopS_any (fun n s' => ∃ i xs H', Inv (X.blk s3 H2 scope ce (D :: fp)) [] (wipe σ (own.map (·.2))) H' s' ∧ tn i s'.heap ∧ (∀ b ∈ D :: fp, H' b = none) ∧ SetX X.w s'.heap D xs ∧ W i n xs H') ?_ m0 ⟨0, [], H2, I4, st4, nfp, x4, w0⟩
    rintro n s5 ⟨i, xs, H5, I5, st5, n5, x5, w5⟩
    have nD5 := n5 D List.mem_cons_self
    have nf5 : ∀ b ∈ fp, H5 b = none := fun b hb => n5 b (List.mem_cons_of_mem _ hb)
    obtain ⟨oD, hoD⟩ : ∃ o, s5.heap.get? D = some o := by obtain ⟨o, _, _, _, ho, _⟩ := x5; exact ⟨o, ho⟩
    have dD : ∀ v, oD.data ≠ .cell v := by
      obtain ⟨o, es, ep, t, ho, _, hd, _⟩ := x5
      rw [hoD] at ho; cases ho
      intro v z
      rw [hd] at z; cases z
    have sD := stat I5 n5 D List.mem_cons_self
    have I5p : Inv (X.blk s3 H2 scope ce (D :: fp)) [(D, oD)] (wipe σ (own.map (·.2))) H5 s5 := I5.pins_of fun p hp => by
      rw [List.mem_singleton.mp hp]
      exact ⟨hoD, sD.1, sD.2.1, sD.2.2.1, dD⟩
    have stp : ∀ {H' : Hp}, (∀ b ∈ fp, H' b = none) → ∀ b ∈ fp, FpOk (X.blk s3 H2 scope ce (D :: fp)) [(D, oD)] H' b := fun {H'} hn b hb => by
      obtain ⟨_, g1, g2, g3, g4, _⟩ := stat I5 n5 b (List.mem_cons_of_mem _ hb)
      refine ⟨hn b hb, g1, g2, g3, g4, fun p hp z => ?_⟩
      have : p = (D, oD) := by simpa using (show p ∈ ([] : List (Addr × Obj)) ++ [(D, oD)] from hp)
      subst this
      exact nDfp (by rw [show D = b from z]; exact hb)
    rcases turn i n xs H5 w5 nD5 with ⟨stop, qq⟩ | ⟨go, Nx, hNx, step⟩
    · have td := T.done (X.blk s3 H2 scope ce (D :: fp)) rfl rfl rfl hc i [(D, oD)] s5 _ H5 (fun _ _ => False) I5p (stp nf5) st5 stop
      refine thnF td fun r s6 ⟨hr, I6⟩ => ?_
      subst hr
      have x6 : SetX X.w s6.heap D xs := x5.keep fun o e => by
        rw [hoD] at e; cases e
        exact (I6.pin (D, oD) (List.mem_append_right _ (List.mem_singleton.mpr rfl))).1
      have hk : HOk X.prog X.w (upd H5 D (TxO X.w D xs)) s6.heap := hok_adopt I6.hok nD5 (txO_new x6)
      have I7 : Inv X pins σ (upd H5 D (TxO X.w D xs)) s6 := I2.call' (ch := fp) (I6.os.trans (by rw [← hs3])) (un_adopt I6.base k3 (Nat.le_of_eq hD) nD5) hk I6.bare fun b hb => ⟨(f2 b hb).2.2.2.1, (f2 b hb).2.1, (f2 b hb).2.2.2.2.1, (f2 b hb).2.2.2.2.2⟩
      have nC : (upd H5 D (TxO X.w D xs)) s3.heap.objs.size = none := by
        have z : H5 ce.locals = none := I6.free
        rw [cL] at z
        rw [upd_ne (Nat.ne_of_gt szD)]
        exact z
      obtain ⟨m, hn, _⟩ := I6.loc
      have hn : s6.heap.Ns ce.locals m := hn
      rw [cL] at hn
      exact hRR D s3.heap.objs.size s6 m _ I7 qq hn (I3.fpOk (Nat.le_refl _) nC)
    · have ti := T.item (X.blk s3 H2 scope ce (D :: fp)) rfl rfl rfl hc i [(D, oD)] s5 _ H5 (fun _ _ => False) I5p (stp nf5) st5 go
      refine thnF ti fun r s6 ⟨u, hr, h6⟩ => ?_
      subst hr
      refine thnF h6 fun _ s7 ⟨x, H7, I7, r7, y7, st7, n7⟩ => ?_
      have I7' := I7.pinned (stp n7) (T.obj _ _ st7)
      refine thnF (pg.run _ s7 _ H7 x u _ I7' r7 (step x H7 y7)) fun _ s8 ⟨σ8, H8, I8, hw8, q8⟩ => ?_
      refine thnF (pt.run _ s8 σ8 H8 _ I8 q8) fun b s9 ⟨H9, I9, q9⟩ => ?_
      have hl : (wipe σ (own.map (·.2))).length = σ8.length := by rw [← hw8, wipe_length]
      -- what is pinned stands still
      have still : ∀ {s' : Shared} {H' : Hp}, Inv (X.blk s3 H2 scope ce (D :: fp)) ([(D, oD)] ++ pinsAt fp s7.heap) σ8 H' s' → tn (i + 1) s'.heap ∧ (∀ b ∈ D :: fp, H' b = none) ∧ SetX X.w s'.heap D xs ∧ Inv (X.blk s3 H2 scope ce (D :: fp)) [] (wipe σ (own.map (·.2))) H' s' := fun {s' H'} I' => by
        have pD := I'.pin (D, oD) (List.mem_append_right _ (List.mem_append_left _ (List.mem_singleton.mpr rfl)))
        have pin' : ∀ b ∈ fp, ∀ o, s7.heap.get? b = some o → s'.heap.get? b = some o ∧ H' b = none := fun b hb o e =>
          let z := I'.pin (b, o) (List.mem_append_right _ (List.mem_append_right _ (mem_pinsAt hb e)))
          ⟨z.1, z.2.1⟩
        refine ⟨T.keep _ _ _ st7 fun b hb o e => (pin' b hb o e).1, fun b hb => ?_, x5.keep fun o e => by rw [hoD] at e; cases e; exact pD.1, ((show Inv (X.blk s3 H2 scope ce (D :: fp)) ([] ++ ([(D, oD)] ++ pinsAt fp s7.heap)) σ8 H' s' from I').unpinned).weak hl fun j v e => ?_⟩
        · rcases List.mem_cons.mp hb with rfl | hb
          · exact pD.2.1
          · obtain ⟨o, e, _⟩ := T.obj _ _ st7 b hb
            exact (pin' b hb o e).2
        · rw [← hw8] at e
          exact (wipe_some e).1
      cases b with
      | false =>
        simp only [Bool.false_eq_true, if_false] at q9 ⊢
        obtain ⟨z1, z2, z3, z4⟩ := still I9
        obtain ⟨m', hm, w'⟩ := hNx _ _ q9
        exact ⟨m', hm, i + 1, xs, H9, z4, z1, z2, z3, w'⟩
      | true =>
        simp only [if_true] at q9 ⊢
        refine thnF (pe.run _ s9 σ8 H9 _ I9 q9) fun z s10 ⟨yv, H10, I10, r10, c, ey, room, nx⟩ => ?_
        subst ey
        obtain ⟨tk, rfl⟩ : ∃ tk, z = Value.str c tk := r10
        obtain ⟨z1, z2, z3, z4⟩ := still I10
        obtain ⟨m', hm, w'⟩ := hNx _ _ nx
        have sD' := stat z4 z2 D List.mem_cons_self
        refine addc_tx z3 room fun g' sb x' => ⟨m', hm, i + 1, _, H10, z4.turned (t' := s10.toks + 1) (fun b o hb e => (sb.2 b hb).trans e) sD'.1 sD'.2.1 sD'.2.2.2.1 sD'.2.2.2.2.1 sD'.2.2.2.2.2, T.keep _ _ _ z1 fun b hb o e => ?_, z2, x', w'⟩
        exact (sb.2 b fun q => nDfp (q ▸ hb)).trans e
  exact PpSet.codeAny_compStart_set loop (T.self X.A 0 _ _ _ st4 loop)
theorem pe_scx {elt tg iter : Expr} {ifs : List Expr} {scope : Scope} {own : List (PySem.Str × Nat)} {pos : Pos} {wi : TI} {g : TG} {tt : TT} {te : TE} (hc : X.calm = true) (hN : X.N.Nodup) (hi : PI X tg iter wi) (ok : BlkOk X.N X.env.scope scope own)
    (hg : ∀ (s : Shared) (H : Hp) (C : Addr) (cl : List (PySem.Str × Addr)) (fp : List Addr), PG (X.blk s H scope (compEnvC scope cl C X.env) fp) tg g) (ht : ∀ (s : Shared) (H : Hp) (C : Addr) (cl : List (PySem.Str × Addr)) (fp : List Addr), PTs (X.blk s H scope (compEnvC scope cl C X.env) fp) ifs tt)
    (he : ∀ (s : Shared) (H : Hp) (C : Addr) (cl : List (PySem.Str × Addr)) (fp : List Addr), PE (X.blk s H scope (compEnvC scope cl C X.env) fp) elt te) (hs : ∀ x, foldedSetIterable iter X.env x = pure x := by intro _; rfl) :
    PE X (.SetComp elt [⟨tg, iter, ifs, 0⟩] scope pos) (tScX X.w wi g tt te (own.map (·.2))) := by
  refine ⟨fun pins s σ H Q I h => ?_⟩
  rw [PpSet.eval_SetComp]
  refine scx_core hc hN I hi ok hg ht he hs h fun D C s' m H' I' q hn f => ⟨m, hn, fun h'' sb => ?_⟩
  obtain ⟨f0, f1, f2, f3, f4, f5⟩ := f
  exact ⟨.ref D, H', I'.turned (t' := s'.toks) (fun b o hb e => (sb.2 b hb).trans e) f0 f1 f3 f4 f5, rfl, q⟩
end
end G
namespace G
open PySem PySem.Spec PyProof.Rows L2
section
open Classical
/-- the turns; xs: the texts so far, each once -/
noncomputable def scGo (t : D → Ev → Option Ev) (c : ST) (f : SE) (ok : Hs → Prop) (ρ : Ev) : List D → List Str → Hs → R D
  | [], xs, h => if ok h ∧ xs.length < 64 then .ok (.lst ((sortS xs).map .str)) h else .no
  | d :: r, xs, h => if ok h then match t d ρ with
    | some ρ1 => (c ρ1 h).dry.bind fun b h1 => match b with
      | true => (f ρ1 h1).dry.bind fun y h2 => match y with
        | .str x => if xs.length < 64 then scGo t c f ok ρ r (if x ∈ xs then xs else xs ++ [x]) h2 else .no
        | _ => .no
      | false => scGo t c f ok ρ r xs h1
    | none => .no
  else .no
/-- sorted({elt for target in iter if ..}) -/
noncomputable def sSortSc (s : SI) (t : D → Ev → Option Ev) (c : ST) (f : SE) (vs : List Nat) : SE := fun ρ h => (s ρ h).bind fun q h1 => scGo t c f q.2 (wipeE ρ vs) q.1 [] h1
variable {X : Cx} {elt tg iter : Expr} {ifs : List Expr} {scope : Scope} {own : List (Str × Nat)} {pos : Pos} {fi : SI} {g : TG} {ft : D → Ev → Option Ev} {ws : List Nat} {fc : ST} {fe : SE}
theorem sc_red {K : PySem.W.Frag} {w : World} {mg : Str → Option Value} {W : WX} {σ : Sl} {H : Hp} {Q Q2 : VK} {vs : List Nat} (ht : TgOk K g ft ws) (hw : ∀ j ∈ ws, j ∈ vs)
    (h : LE K mg W (sSortSc fi ft fc fe vs) σ H Q) (kk : ∀ v H', (∃ (a : Addr) (xs : List Str), v = V.ref a ∧ H' a = some (TxO w a xs) ∧ xs.length < 64 ∧ ∀ (ys : List Str) (p : Addr), ys.Perm xs → sortedS ys = true → H' p = none → Q (.ref p) (upd H' p (.lst (ys.map V.str)))) → Q2 v H') :
    tScX w (LI K mg W fi) g (LT K mg (fun _ _ _ _ => False) fc) (LE K mg (fun _ _ _ _ => False) fe) vs σ H Q2 := by
  obtain ⟨m, ρ, h, rl, en, p⟩ := h
  unfold sSortSc at p
  refine ⟨m, ρ, h, rl, en, p.bind.mono (fun J H1 ⟨m1, s, h1, e1, r1, io, p1⟩ => ?_) fun _ _ _ z => z⟩
  obtain ⟨ds, ok⟩ := s
  dsimp only at p1
  intro Dn hDn
  refine ⟨fun i k xs H' => i ≤ ds.length ∧ k = ds.length - i ∧ ∃ m2 h2, Ext m1 H1 m2 H' ∧ Rel K mg m2 H' h2 ∧
    Po K mg (RD K mg) m2 H' (scGo ft fc fe ok (wipeE ρ vs) (ds.drop i) xs h2) Q (fun c dd H' => W c dd σ H'),
    ⟨ds.length, Nat.zero_le _, rfl, m1, _, Ext.refl _ _, r1, by simpa using p1⟩, ?_⟩
  rintro i k xs H2 ⟨hi, rfl, m2, h2, e2, r2, p2⟩ nD
  by_cases hl : i < ds.length
  · have hd : ds.drop i = ds[i] :: ds.drop (i + 1) := List.drop_eq_getElem_cons hl
    rw [hd] at p2
    unfold scGo at p2
    split at p2
    · rename_i hok
      obtain ⟨go, st⟩ := (io m2 H2 h2 e2 r2 hok i).1 ds[i] (by simp [hl])
      refine .inr ⟨go, fun xs' H' => ∃ m2 h2, Ext m1 H1 m2 H' ∧ Rel K mg m2 H' h2 ∧
        Po K mg (RD K mg) m2 H' (scGo ft fc fe ok (wipeE ρ vs) (ds.drop (i + 1)) xs' h2) Q (fun c dd H' => W c dd σ H'), fun xs' H' n' => ⟨ds.length - (i + 1), by omega, by omega, rfl, n'⟩, fun x H3 y => ?_⟩
      obtain ⟨e3, r3, rx⟩ := st x H3 y
      split at p2
      · rename_i ρ3 hρ
        have en3 := ((en.ext e1).ext (e2.trans e3)).wipe vs
        refine ht.go _ m2 H3 _ x _ ρ3 _ _ rx en3 hρ fun σ3 en3 l3 k3 => ⟨?_, ?_⟩
        · rw [wipe_eq l3 fun j hj => k3 j fun hjw => hj (hw j hjw), wipe_wipe]
        have p3 := p2.ext e3
        refine ⟨m2, ρ3, h2, r3, en3, ?_⟩
        cases qc : fc ρ3 h2 with
        | no => rw [qc] at p3; exact p3.elim
        | er x5 h5 => rw [qc] at p3; exact p3.elim
        | ok b h4 =>
          rw [qc] at p3
          intro m4 H4 b' e4 r4 hb
          cases hb
          have p4 := p3.ext e4
          have e14 := e2.trans (e3.trans e4)
          cases b with
          | false =>
            rw [if_neg Bool.false_ne_true]
            exact ⟨m4, h4, e14, r4, p4⟩
          | true =>
            rw [if_pos rfl]
            refine ⟨m4, ρ3, h4, r4, en3.ext e4, ?_⟩
            simp only [R.dry, R.bind] at p4
            cases qf : fe ρ3 h4 with
            | no => rw [qf] at p4; exact p4.elim
            | er x5 h5 => rw [qf] at p4; exact p4.elim
            | ok y5 h5 =>
              rw [qf] at p4
              dsimp only at p4
              intro m5 H5 b5 e5 r5 r5y
              split at p4
              · rename_i c
                split at p4
                · rename_i hz
                  simp only [RD] at r5y
                  exact ⟨c, r5y, by unfold scanBound; omega, m5, h5, e14.trans e5, r5, p4.ext e5⟩
                · exact p4.elim
              · exact p4.elim
      · exact p2.elim
    · exact p2.elim
  · have hd : ds.drop i = [] := List.drop_eq_nil_of_le (by omega)
    rw [hd] at p2
    unfold scGo at p2
    split at p2
    · rename_i hok
      refine .inl ⟨(io m2 H2 h2 e2 r2 hok.1 i).2 (by simpa using hl), kk _ _ ⟨Dn, xs, rfl, upd_same, hok.2, fun ys q py hs hq => ?_⟩⟩
      have es := sort_uniq py hs
      subst es
      have x1 : Ext m2 H2 m2 (upd H2 Dn (TxO w Dn xs)) := Ext.new nD
      have r3 := r2.new (o := TxO w Dn xs) nD
      have x2 : Ext m2 (upd H2 Dn (TxO w Dn xs)) m2 (upd (upd H2 Dn (TxO w Dn xs)) q (.lst ((sortS xs).map V.str))) := Ext.new hq
      refine p2 m2 _ _ (x1.trans x2) (r3.new hq) ?_
      simp only [RD]
      exact ⟨q, _, rfl, upd_same, fun z => r3.there z hq, RDs.of_strs _⟩
    · exact p2.elim
theorem re_sortSc {p cpos : Pos} (hc : X.calm = true) (hN : X.N.Nodup) (hgl : Gl X "sorted") (hm : X.mg "sorted" = none) (hi : RI X tg iter fi) (ok : BlkOk X.N X.env.scope scope own)
    (hg : ∀ (s : Shared) (H : Hp) (C : Addr) (cl : List (Str × Addr)) (fp : List Addr), PG (bk X s H scope C cl fp) tg g) (htg : TgOk X.K g ft ws) (hw : ∀ j ∈ ws, j ∈ own.map (·.2))
    (ht : ∀ (s : Shared) (H : Hp) (C : Addr) (cl : List (Str × Addr)) (fp : List Addr), RTs (bk X s H scope C cl fp) ifs fc)
    (he : ∀ (s : Shared) (H : Hp) (C : Addr) (cl : List (Str × Addr)) (fp : List Addr), RE (bk X s H scope C cl fp) elt fe) (hs : ∀ x, foldedSetIterable iter X.env x = pure x := by exact fun _ => rfl)
    (s1 : starEach [.SetComp elt [⟨tg, iter, ifs, 0⟩] scope pos] X.env = (false, eval (.SetComp elt [⟨tg, iter, ifs, 0⟩] scope pos) X.env) :: starEach [] X.env := by rfl) (n1 : (backTo cpos (starEach [] X.env)).any (·.1) = false := by rfl) :
    RE X (.Call (.Name "sorted" p) [.SetComp elt [⟨tg, iter, ifs, 0⟩] scope pos] [] cpos) (sSortSc fi ft fc fe (own.map (·.2))) :=
  ⟨fun W tk => pe_imp (pe_callB (cr_sortTx hc) hgl hm (by decide +kernel) (pa_cons (pe_scx (tt := LT X.K X.mg (fun _ _ _ _ => False) fc) (te := LE X.K X.mg (fun _ _ _ _ => False) fe) hc hN (hi.run W tk) ok hg (fun s H C cl fp => (ht s H C cl fp).run _ takes_none5) (fun s H C cl fp => (he s H C cl fp).run _ takes_none5) hs) pa_nil s1) (he := s1) (hpl := n1)) fun σ H Q h => by
    exact sc_red (w := X.w) (Q2 := fun v H' => rSortTx X.w [v] H' Q) htg hw h fun v H' ⟨a, xs, e, ha, l64, q⟩ => ⟨a, xs, by rw [e], ha, l64, q⟩⟩
end
end G
namespace G
open PySem PySem.Spec PyProof.Rows L2
section
variable {E : D → Hs → Prop} {Q : D → Hs → Prop} {h : Hs} {ρ : Ev} {s : SI} {t : D → Ev → Option Ev} {c : ST} {f : SE} {vs : List Nat}
/-- one of the set changes nothing -/
def EltX (h : Hs) (ρ : Ev) (t : D → Ev → Option Ev) (c : ST) (f : SE) (e : D) (y : Str) (b : Bool) : Prop := ∃ ρ1, t e ρ = some ρ1 ∧ (c ρ1 h).xp noE fun b' h2 => (b' = b ∧ h2 = h) ∧ (b = true → (f ρ1 h).xp noE fun y' h3 => h3 = h ∧ y' = .str y)
def addX (xs : List Str) (y : Str) : List Str := if y ∈ xs then xs else xs ++ [y]
theorem addX_len (xs : List Str) (y : Str) : (addX xs y).length ≤ xs.length + 1 := by
  unfold addX
  split
  · omega
  · simp
theorem scGoM {α : Type} {enc : α → D} {out : α → Str} {p : α → Bool} : ∀ (l : List α) (xs : List Str), xs.length + l.length < 64 → (∀ a ∈ l, EltX h ρ t c f (enc a) (out a) (p a)) →
      (scGo t c f rel0 ρ (l.map enc) xs h).xp E fun d h2 => d = .lst ((sortS (((l.filter p).map out).foldl addX xs)).map .str) ∧ h2 = h
  | [], xs, z, k => by
    rw [List.map_nil]
    unfold scGo
    rw [if_pos ⟨show rel0 _ from trivial, by simpa using z⟩]
    exact ⟨rfl, rfl⟩
  | a :: l, xs, z, k => by
    obtain ⟨ρ1, e1, w⟩ := k a List.mem_cons_self
    obtain ⟨b1, h2, e2, ⟨eb, eh⟩, w2⟩ := w.get
    rw [eh] at e2
    simp only [List.length_cons] at z
    rw [List.map_cons]
    unfold scGo
    rw [if_pos (show rel0 _ from trivial), e1]
    cases ep : p a with
    | false =>
      rw [ep] at eb
      subst eb
      simp only [e2, R.dry, R.bind]
      rw [List.filter_cons, ep, if_neg (by decide)]
      exact scGoM l xs (by omega) fun x hx => k x (List.mem_cons_of_mem _ hx)
    | true =>
      rw [ep] at eb
      subst eb
      obtain ⟨y, h3, e3, eh3, ey⟩ := (w2 ep).get
      rw [eh3, ey] at e3
      simp only [e2, R.dry, R.bind, e3]
      rw [if_pos (show xs.length < 64 by omega), List.filter_cons, ep, if_pos rfl, List.map_cons, List.foldl_cons]
      have : (if out a ∈ xs then xs else xs ++ [out a]) = addX xs (out a) := by
        unfold addX
        split <;> rfl
      rw [this]
      exact scGoM l (addX xs (out a)) (by have := addX_len xs (out a); omega) fun x hx => k x (List.mem_cons_of_mem _ hx)
theorem uniq_addX (ys : List Str) : ys.foldl addX [] = uniqX ys := rfl
/-- sorted({out a for a in l if p a}) -/
theorem w_sortSc {α : Type} (enc : α → D) (out : α → Str) (p : α → Bool) (q : (s ρ h).xp noE fun q h1 => ∃ l : List α, (q.2 = rel0 ∧ q.1 = l.map enc) ∧ l.length < 64 ∧ (∀ a ∈ l, EltX h1 (wipeE ρ vs) t c f (enc a) (out a) (p a)) ∧ Q (.lst ((sortS (uniqX ((l.filter p).map out))).map .str)) h1) : (sSortSc s t c f vs ρ h).xp E Q := by
  refine w_bind (R.xp.weak (q.mono fun q h1 ⟨l, ⟨e1, e2⟩, z, k, fin⟩ => ?_))
  obtain ⟨ds, ok⟩ := q
  dsimp only at e1 e2
  subst e1 e2
  refine (scGoM l [] (by simpa using z) k).mono fun d h2 ⟨a1, a2⟩ => ?_
  subst a1 a2
  exact fin
end
end G

noncomputable section
namespace Law_k03
open PySem PySem.Spec PyProof.Rows L2 G
abbrev CS : List Str := ["Task", "Door"]
def anc : Anc := [("TimeError", ["TimeError", "ValueError", "Exception"]), ("NoTask", ["NoTask", "TimeError", "ValueError", "Exception"]), ("NoDoor", ["NoDoor", "TimeError", "ValueError", "Exception"]), ("NoNumber", ["NoNumber", "TimeError", "ValueError", "Exception"]), ("LostError", ["LostError", "LookupError", "Exception"])]
def N__law_purse : List Str := ["_law_cell_here", "_law_digits"]
def f__law_purse : SS := (sSeq (sSet 1 (sC (.int 0)))
  (sSeq (sIf (sOr (sTB (sBin gLt (sVar 0) (sC (.int 0)))) (sTB (sBin gGe (sVar 0) (sBin gPow (sC (.int 10)) (sC (.int 18))))))
  (sSet 1 (sCallB gAbs (aCons (sVar 0) aNil)))
  sNext)
  (sRet (sLstR (aCons (sBin gMod (sVar 0) (sC (.int 1000000021))) (aCons (sVar 1) (aCons (sC (.int 0)) aNil)))))))
def F__law_purse : Fs := runB 2 f__law_purse
@[reducible] def g1__law_purse : List D → List D → List D := fun ds _ => ds
def N__law_cell : List Str := ["_law_script", "_law_k", "_law_state", "_law_cell_here"]
def f__law_cell : SS := (sSeq (sIf (sTB (sBin gLt (sVar 1) (sCallB gLen (aCons (sVar 0) aNil))))
  (sRet (sBin gIx (sVar 0) (sVar 1)))
  sNext)
  (sSeq (sSet 2 (sBin gMod (sBin gMul (sC (.int 70001)) (sBin gAdd (sBin gAdd (sBin gMul (sVar 1) (sVar 1)) (sBin gMul (sC (.int 9)) (sVar 1))) (sC (.int 13)))) (sC (.int 1000000021))))
  (sSeq (sFor (iSq (sSl (sVar 0) sNoPart (sPart (sC (.int 3))))) (fName 3)
  (sSet 2 (sBin gMod (sBin gAdd (sBin gMul (sVar 2) (sC (.int 40009))) (sVar 3)) (sC (.int 1000000021)))))
  (sRet (sVar 2)))))
def F__law_cell : Fs := runB 4 f__law_cell
@[reducible] def g2__law_cell : List D → List D → List D := fun ds _ => ds
def N__law_take : List Str := ["_law_purse_here", "_law_many", "_law_state", "_law_taken"]
def f__law_take : SS := (sSeq (sPut putL (sBin gAdd (sBin gIx (sVar 0) (sC (.int 2))) (sC (.int 1))) (sVar 0) (sC (.int 2)))
  (sSeq (sSet 2 (sBin gIx (sVar 0) (sC (.int 0))))
  (sSeq (sPut putL (sBin gMod (sBin gAdd (sBin gAdd (sBin gMul (sVar 2) (sBin gAdd (sBin gMod (sVar 2) (sC (.int 50021))) (sC (.int 20011)))) (sBin gMul (sC (.int 60013)) (sBin gIx (sVar 0) (sC (.int 2))))) (sC (.int 5))) (sC (.int 1000000021))) (sVar 0) (sC (.int 0)))
  (sSeq (sIf (sTB (sBin gGt (sBin gIx (sVar 0) (sC (.int 1))) (sC (.int 0))))
  (sSeq (sSet 3 (sBin gMod (sBin gIx (sVar 0) (sC (.int 1))) (sVar 1)))
  (sSeq (sPut putL (sBin gDiv (sBin gIx (sVar 0) (sC (.int 1))) (sVar 1)) (sVar 0) (sC (.int 1)))
  (sRet (sVar 3))))
  sNext)
  (sRet (sBin gMod (sBin gDiv (sBin gIx (sVar 0) (sC (.int 0))) (sC (.int 32))) (sVar 1)))))))
def F__law_take : Fs := runB 4 f__law_take
@[reducible] def g2__law_take : List D → List D → List D := fun ds _ => ds
def N__law_words : List Str := ["_law_purse_here", "_law_many", "_law_own", "_law_spot", "_law_step", "_law_letters", "_law_stem", "_law_cut", "_law_begin", "_law_k"]
def f__law_words : SS := (sSeq (sSet 2 (sLst (aCons (sC (.str "task")) (aCons (sC (.str "door")) (aCons (sC (.str "every")) (aCons (sC (.str "let")) (aCons (sC (.str "leave")) (aCons (sC (.str "come")) (aCons (sC (.str "serve")) (aCons (sC (.str "end")) (aCons (sC (.str "in")) (aCons (sC (.str "soon")) (aCons (sC (.str "none")) (aCons (sC (.str "go")) aNil))))))))))))))
  (sSeq (sAsg (sTup (aCons (sCall F__law_take 2 0 g2__law_take (aCons (sVar 0) (aCons (sC (.int 12)) aNil)) aNil) (aCons (sBin gIx (sLst (aCons (sC (.int 1)) (aCons (sC (.int 5)) (aCons (sC (.int 7)) (aCons (sC (.int 11)) aNil))))) (sCall F__law_take 2 0 g2__law_take (aCons (sVar 0) (aCons (sC (.int 4)) aNil)) aNil)) aNil))) (fTup 2 (fCons (fName 3) (fCons (fName 4) fNil))))
  (sSeq (sIf (sTB (sBin gEq (sCall F__law_take 2 0 g2__law_take (aCons (sVar 0) (aCons (sC (.int 4)) aNil)) aNil) (sC (.int 1))))
  (sRet (sTrim (sLr (iRg1 (sVar 1)) (fName 9) sYes (sBin gIx (sVar 2) (sBin gMod (sBin gAdd (sVar 3) (sBin gMul (sVar 4) (sVar 9))) (sC (.int 12)))) [9])))
  sNext)
  (sSeq (sSet 5 (sC (.str "abcdefghijklmnopqrstuvwxyz")))
  (sSeq (sSet 6 (sBM "str" gJoin (sC (.str "")) (aCons (sTrim (sLr (iRg1 (sCall F__law_take 2 0 g2__law_take (aCons (sVar 0) (aCons (sC (.int 8)) aNil)) aNil)) (fName 9) sYes (sBin gIx (sVar 5) (sCall F__law_take 2 0 g2__law_take (aCons (sVar 0) (aCons (sC (.int 26)) aNil)) aNil)) [9])) aNil)))
  (sSeq (sAsg (sTup (aCons (sCall F__law_take 2 0 g2__law_take (aCons (sVar 0) (aCons (sBin gAdd (sCallB gLen (aCons (sVar 6) aNil)) (sC (.int 1))) aNil)) aNil) (aCons (sCall F__law_take 2 0 g2__law_take (aCons (sVar 0) (aCons (sC (.int 26)) aNil)) aNil) aNil))) (fTup 2 (fCons (fName 7) (fCons (fName 8) fNil))))
  (sRet (sTrim (sLr (iRg1 (sVar 1)) (fName 9) sYes (sBin gAdd (sBin gAdd (sSl (sVar 6) sNoPart (sPart (sVar 7))) (sBin gIx (sVar 5) (sBin gMod (sBin gAdd (sVar 8) (sBin gMul (sVar 4) (sVar 9))) (sC (.int 26))))) (sSl (sVar 6) (sPart (sVar 7)) sNoPart)) [9])))))))))
def F__law_words : Fs := runB 10 f__law_words
@[reducible] def g2__law_words : List D → List D → List D := fun ds _ => ds
def N__law_holds : List Str := ["_law_purse_here", "_law_cost", "_law_tools", "_law_found", "_law_tool", "_law_begin", "_law_size", "_law_rest"]
def f__law_holds : SS := (sSeq (sSet 3 (sLstR aNil))
  (sSeq (sFor (iSq (sCallB gSorted (aCons (sVar 2) aNil))) (fName 4)
  (sIf (sAnd (sTB (sBin gLt (sCallB gLen (aCons (sVar 3) aNil)) (sC (.int 4)))) (sTB (sBin gGt (sCall F__law_take 2 0 g2__law_take (aCons (sVar 0) (aCons (sC (.int 3)) aNil)) aNil) (sC (.int 0)))))
  (sSeq (sSet 5 (sCall F__law_take 2 0 g2__law_take (aCons (sVar 0) (aCons (sVar 1) aNil)) aNil))
  (sSeq (sSet 6 (sBin gAdd (sC (.int 1)) (sCall F__law_take 2 0 g2__law_take (aCons (sVar 0) (aCons (sBin gSub (sVar 1) (sVar 5)) aNil)) aNil)))
  (sSeq (sDrop (sBM "list" gAppend (sVar 3) (aCons (sTup (aCons (sVar 4) (aCons (sVar 5) (aCons (sVar 6) aNil)))) aNil)))
  (sSeq (sSet 7 (sBin gAdd (sVar 5) (sVar 6)))
  (sIf (sAnd (sTB (sBin gLt (sCallB gLen (aCons (sVar 3) aNil)) (sC (.int 4)))) (sAnd (sTB (sBin gLt (sVar 7) (sVar 1))) (sTB (sBin gEq (sCall F__law_take 2 0 g2__law_take (aCons (sVar 0) (aCons (sC (.int 3)) aNil)) aNil) (sC (.int 0))))))
  (sSeq (sSet 5 (sBin gAdd (sVar 7) (sBin gIx (sLst (aCons (sC (.int 0)) (aCons (sCall F__law_take 2 0 g2__law_take (aCons (sVar 0) (aCons (sBin gSub (sVar 1) (sVar 7)) aNil)) aNil) aNil))) (sCall F__law_take 2 0 g2__law_take (aCons (sVar 0) (aCons (sC (.int 2)) aNil)) aNil))))
  (sDrop (sBM "list" gAppend (sVar 3) (aCons (sTup (aCons (sVar 4) (aCons (sVar 5) (aCons (sBin gAdd (sC (.int 1)) (sCall F__law_take 2 0 g2__law_take (aCons (sVar 0) (aCons (sBin gSub (sVar 1) (sVar 5)) aNil)) aNil)) aNil)))) aNil))))
  sNext)))))
  sNext))
  (sRet (sCallB gTupleOf (aCons (sVar 3) aNil)))))
def F__law_holds : Fs := runB 8 f__law_holds
@[reducible] def g3__law_holds : List D → List D → List D := fun ds _ => ds
def N__law_drawn : List Str := ["_law_purse_here", "_law_words_here", "_law_cost", "_law_gap", "_law_term"]
def f__law_drawn : SS := (sSeq (sSet 1 (sCall F__law_words 2 0 g2__law_words (aCons (sVar 0) (aCons (sC (.int 4)) aNil)) aNil))
  (sSeq (sSet 2 (sBin gIx (sLst (aCons (sC (.int 1)) (aCons (sC (.int 2)) (aCons (sC (.int 99)) (aCons (sBin gAdd (sC (.int 1)) (sCall F__law_take 2 0 g2__law_take (aCons (sVar 0) (aCons (sC (.int 6)) aNil)) aNil)) (aCons (sBin gAdd (sC (.int 1)) (sCall F__law_take 2 0 g2__law_take (aCons (sVar 0) (aCons (sC (.int 99)) aNil)) aNil)) aNil)))))) (sCall F__law_take 2 0 g2__law_take (aCons (sVar 0) (aCons (sC (.int 5)) aNil)) aNil)))
  (sSeq (sSet 3 (sBin gIx (sLst (aCons (sBin gAdd (sC (.int 1)) (sCall F__law_take 2 0 g2__law_take (aCons (sVar 0) (aCons (sC (.int 12)) aNil)) aNil)) (aCons (sBin gAdd (sC (.int 1)) (sCall F__law_take 2 0 g2__law_take (aCons (sVar 0) (aCons (sC (.int 600)) aNil)) aNil)) (aCons (sC (.int 600)) (aCons (sC (.int 1)) aNil))))) (sCall F__law_take 2 0 g2__law_take (aCons (sVar 0) (aCons (sC (.int 4)) aNil)) aNil)))
  (sSeq (sSet 4 (sBin gIx (sLst (aCons (sC .non) (aCons (sVar 3) (aCons (sC (.int 1)) (aCons (sBin gAdd (sC (.int 1)) (sCall F__law_take 2 0 g2__law_take (aCons (sVar 0) (aCons (sVar 3) aNil)) aNil)) aNil))))) (sCall F__law_take 2 0 g2__law_take (aCons (sVar 0) (aCons (sC (.int 4)) aNil)) aNil)))
  (sRet (sTup (aCons (sBin gIx (sVar 1) (sC (.int 0))) (aCons (sVar 2) (aCons (sVar 3) (aCons (sVar 4) (aCons (sTrim (sCall F__law_holds 3 0 g3__law_holds (aCons (sVar 0) (aCons (sVar 2) (aCons (sSl (sVar 1) sNoPart (sPart (sCall F__law_take 2 0 g2__law_take (aCons (sVar 0) (aCons (sC (.int 4)) aNil)) aNil))) aNil))) aNil)) aNil)))))))))))
def F__law_drawn : Fs := runB 5 f__law_drawn
@[reducible] def g1__law_drawn : List D → List D → List D := fun ds _ => ds
def N_is_name : List Str := ["thing", "sign"]
def f_is_name : SS := (sSeq (sIf (sOr (sNot (sTru (sIsi CS [(.b "str")] (sVar 0)))) (sNot (sTB (sChain gLe gLe (sC (.int 1)) (sCallB gLen (aCons (sVar 0) aNil)) (sC (.int 8))))))
  (sRet (sC (.bl false)))
  sNext)
  (sRet (sCallB gAll (aCons (sTrim (sLr (iSq (sVar 0)) (fName 1) sYes (sBin (gIn false) (sVar 1) (sC (.str "abcdefghijklmnopqrstuvwxyz"))) [1])) aNil))))
def F_is_name : Fs := runB 2 f_is_name
@[reducible] def g1_is_name : List D → List D → List D := fun ds _ => ds
def N_is_whole : List Str := ["thing"]
def f_is_whole : SS := (sRet (sAndV (sIsi CS [(.b "int")] (sVar 0)) (sNotV (sIsi CS [(.b "bool")] (sVar 0)))))
def F_is_whole : Fs := runB 1 f_is_whole
@[reducible] def g1_is_whole : List D → List D → List D := fun ds _ => ds
def N_is_within : List Str := ["thing", "least", "most"]
def f_is_within : SS := (sRet (sAndV (sCall F_is_whole 1 0 g1_is_whole (aCons (sVar 0) aNil) aNil) (sChain gLe gLe (sVar 1) (sVar 0) (sVar 2))))
def F_is_within : Fs := runB 3 f_is_within
@[reducible] def g3_is_within : List D → List D → List D := fun ds _ => ds
def N_is_hold : List Str := ["thing", "cost", "tool", "begin", "long"]
def f_is_hold : SS := (sSeq (sIf (sOr (sNot (sTru (sIsi CS [(.b "tuple")] (sVar 0)))) (sTB (sBin gNe (sCallB gLen (aCons (sVar 0) aNil)) (sC (.int 3)))))
  (sRet (sC (.bl false)))
  sNext)
  (sSeq (sAsg (sVar 0) (fTup 3 (fCons (fName 2) (fCons (fName 3) (fCons (fName 4) fNil)))))
  (sRet (sAndV (sCall F_is_name 1 0 g1_is_name (aCons (sVar 2) aNil) aNil) (sAndV (sCall F_is_within 3 0 g3_is_within (aCons (sVar 3) (aCons (sC (.int 0)) (aCons (sVar 1) aNil))) aNil) (sAndV (sCall F_is_within 3 0 g3_is_within (aCons (sVar 4) (aCons (sC (.int 1)) (aCons (sVar 1) aNil))) aNil) (sBin gLe (sBin gAdd (sVar 3) (sVar 4)) (sVar 1))))))))
def F_is_hold : Fs := runB 5 f_is_hold
@[reducible] def g2_is_hold : List D → List D → List D := fun ds _ => ds
def N_are_holds : List Str := ["thing", "cost", "one", "other"]
def f_are_holds : SS := (sSeq (sIf (sOr (sNot (sTru (sIsi CS [(.b "tuple")] (sVar 0)))) (sOr (sTB (sBin gGt (sCallB gLen (aCons (sVar 0) aNil)) (sC (.int 4)))) (sNot (sTru (sCallB gAll (aCons (sTrim (sLr (iSq (sVar 0)) (fName 2) sYes (sCall F_is_hold 2 0 g2_is_hold (aCons (sVar 2) (aCons (sVar 1) aNil)) aNil) [2])) aNil))))))
  (sRet (sC (.bl false)))
  sNext)
  (sSeq (sFor (iZp (sVar 0) (sSl (sVar 0) (sPart (sC (.int 1))) sNoPart)) (fTup 2 (fCons (fName 2) (fCons (fName 3) fNil)))
  (sIf (sOr (sTB (sBin gGeA (sVar 2) (sVar 3))) (sAnd (sTB (sBin gEq (sBin gIx (sVar 2) (sC (.int 0))) (sBin gIx (sVar 3) (sC (.int 0))))) (sTB (sBin gGt (sBin gAdd (sBin gIx (sVar 2) (sC (.int 1))) (sBin gIx (sVar 2) (sC (.int 2)))) (sBin gIx (sVar 3) (sC (.int 1)))))))
  (sRet (sC (.bl false)))
  sNext))
  (sRet (sC (.bl true)))))
def F_are_holds : Fs := runB 4 f_are_holds
@[reducible] def g2_are_holds : List D → List D → List D := fun ds _ => ds
def N_Task___init__ : List Str := ["self", "name", "cost", "gap", "due", "holds"]
def f_Task___init__ : SS := (sSeq (sIf (sNot (sTru (sCall F_is_name 1 0 g1_is_name (aCons (sVar 1) aNil) aNil)))
  (sRaise "NoTask" ["part"] (aCons (sC (.str "name")) aNil))
  sNext)
  (sSeq (sIf (sNot (sTru (sCall F_is_within 3 0 g3_is_within (aCons (sVar 2) (aCons (sC (.int 1)) (aCons (sC (.int 99)) aNil))) aNil)))
  (sRaise "NoTask" ["part"] (aCons (sC (.str "cost")) aNil))
  sNext)
  (sSeq (sIf (sNot (sTru (sCall F_is_within 3 0 g3_is_within (aCons (sVar 3) (aCons (sC (.int 1)) (aCons (sC (.int 600)) aNil))) aNil)))
  (sRaise "NoTask" ["part"] (aCons (sC (.str "gap")) aNil))
  sNext)
  (sSeq (sIf (sAnd (sTB (sBin gIsNot (sVar 4) (sC .non))) (sNot (sTru (sCall F_is_within 3 0 g3_is_within (aCons (sVar 4) (aCons (sC (.int 1)) (aCons (sVar 3) aNil))) aNil))))
  (sRaise "NoTask" ["part"] (aCons (sC (.str "due")) aNil))
  sNext)
  (sSeq (sIf (sNot (sTru (sCall F_are_holds 2 0 g2_are_holds (aCons (sVar 5) (aCons (sVar 2) aNil)) aNil)))
  (sRaise "NoTask" ["part"] (aCons (sC (.str "holds")) aNil))
  sNext)
  (sSeq (sAsgF (sTup (aCons (sVar 1) (aCons (sVar 2) (aCons (sVar 3) aNil)))) 3 (hCons ["Task"] "name" (sVar 0) (hCons ["Task"] "cost" (sVar 0) (hCons ["Task"] "gap" (sVar 0) hNil))))
  (sSeq (sFldSet ["Task"] "due" (sIte (sTB (sBin gIs (sVar 4) (sC .non))) (sVar 3) (sVar 4)) (sVar 0))
  (sSeq (sFldSet ["Task"] "holds" (sVar 5) (sVar 0))
  (sFldSet ["Task"] "spans" (sTupRg1 (sVar 2)) (sVar 0))))))))))
def F_Task___init__ : Fs := runB 6 f_Task___init__
def g4_due_holds_Task___init__ : List D → List D → List D := gKw [0, 1, 2, 3, 4, 5] []
def N_check_within : List Str := ["thing", "least", "most"]
def f_check_within : SS := (sIf (sNot (sTru (sCall F_is_within 3 0 g3_is_within (aCons (sVar 0) (aCons (sVar 1) (aCons (sVar 2) aNil))) aNil)))
  (sRaise "NoNumber" ["number"] (aCons (sVar 0) aNil))
  sNext)
def F_check_within : Fs := runB 3 f_check_within
@[reducible] def g3_check_within : List D → List D → List D := fun ds _ => ds
def N_Task_held : List Str := ["self", "done", "tool", "begin", "long"]
def f_Task_held : SS := (sSeq (sDrop (sCall F_check_within 3 0 g3_check_within (aCons (sVar 1) (aCons (sC (.int 0)) (aCons (sFldD ["Task"] "cost" (sVar 0)) aNil))) aNil))
  (sRet (sCallB gTupleOf (aCons (sSortSc (iSq (sFldD ["Task"] "holds" (sVar 0))) (fTup 3 (fCons (fName 2) (fCons (fName 3) (fCons (fName 4) fNil)))) (sTB (sChain gLt gLt (sVar 3) (sVar 1) (sBin gAdd (sVar 3) (sVar 4)))) (sVar 2) [2, 3, 4]) aNil))))
def F_Task_held : Fs := runB 5 f_Task_held
def g1_done_Task_held : List D → List D → List D := gKw [0, 1] []
@[reducible] def g2_Task_held : List D → List D → List D := fun ds _ => ds
def N__law_due_at : List Str := ["_law_grips", "_law_stage", "_law_found", "_law_tool", "_law_begin", "_law_size"]
def f__law_due_at : SS := (sSeq (sSet 2 (sLstR aNil))
  (sSeq (sFor (iSq (sVar 0)) (fTup 3 (fCons (fName 3) (fCons (fName 4) (fCons (fName 5) fNil))))
  (sIf (sAnd (sTB (sBin (gIn false) (sVar 1) (sLstRg2 (sBin gAdd (sVar 4) (sC (.int 1))) (sBin gAdd (sVar 4) (sVar 5))))) (sTB (sBin (gIn true) (sVar 3) (sVar 2))))
  (sDrop (sBM "list" gAppend (sVar 2) (aCons (sVar 3) aNil)))
  sNext))
  (sRet (sCallB gTupleOf (aCons (sCallB gSorted (aCons (sVar 2) aNil)) aNil)))))
def F__law_due_at : Fs := runB 6 f__law_due_at
@[reducible] def g2__law_due_at : List D → List D → List D := fun ds _ => ds
def N_Task___repr__ : List Str := ["self"]
def fX_Task___repr__ (x : XI) : SS := (sRet (sFs [(sC (.str "Task(")), (sFmt (sFldD ["Task", "Door"] "name" (sVar 0))), (sC (.str ")"))]))
def FX_Task___repr__ : XI → Fs := fun x => runB 1 (fX_Task___repr__ x)
@[reducible] def g1_Task___repr__ : List D → List D → List D := fun ds _ => ds
def T_reprX (x : XI) : Tbl := [("Task", FX_Task___repr__ x)]
def N__law_refused : List Str := ["_law_task", "_law_thing", "_law_by_name", "e"]
def f__law_refused : SS := (sSeq (sTry anc (sIf (sTru (sVar 2))
  (sDrop (sMethK (m := "held") "Task" F_Task_held 1 g1_done_Task_held (sVar 0) (aCons (sVar 1) aNil)))
  (sDrop (sMeth (m := "held") "Task" F_Task_held 1 g2_Task_held (sVar 0) (aCons (sVar 1) aNil))))
  ((["TimeError", "LostError"], some 3, fun x => (sSeq (sIf (sOr (sTru (sIsX anc ["NoTask", "LostError"] 3 x)) (sOr (sNot (sTru (sIsX anc ["NoNumber"] 3 x))) (sNot (sTru (sIsX anc ["ValueError"] 3 x)))))
  (sRet (sC (.bl false)))
  sNext)
  (sRet (sBin gEq (sCallB (gReprO (T_reprX x)) (aCons (sFldX ["NoNumber"] "number" 3 x) aNil)) (sCallB (gReprO (T_reprX x)) (aCons (sVar 1) aNil)))))) :: []))
  (sRet (sC (.bl false))))
def F__law_refused : Fs := runB 4 f__law_refused
@[reducible] def g3__law_refused : List D → List D → List D := fun ds _ => ds
def N_law : List Str := ["_law_script", "_law_k", "_law_purse_here", "_law_name", "_law_cost", "_law_gap", "_law_term", "_law_rows", "_law_task", "_law_stage", "_law_told", "_law_again", "_law_some", "_law_at", "_law_thing"]
def f_law : SS := (sSeq (sFor (iRg1 (sCallB gMax (aCons (sC (.int 2)) (aCons (sCallB gMin (aCons (sC (.int 12)) (aCons (sCallB gLen (aCons (sVar 0) aNil)) aNil))) aNil)))) (fName 1)
  (sSeq (sSet 2 (sCall F__law_purse 1 0 g1__law_purse (aCons (sCall F__law_cell 2 0 g2__law_cell (aCons (sVar 0) (aCons (sVar 1) aNil)) aNil) aNil) aNil))
  (sSeq (sAsg (sCall F__law_drawn 1 0 g1__law_drawn (aCons (sVar 2) aNil) aNil) (fTup 5 (fCons (fName 3) (fCons (fName 4) (fCons (fName 5) (fCons (fName 6) (fCons (fName 7) fNil)))))))
  (sSeq (sSet 8 (sTrim (sMake "Task" F_Task___init__ 3 2 g4_due_holds_Task___init__ (aCons (sVar 3) (aCons (sVar 4) (aCons (sVar 5) aNil))) (aCons (sVar 6) (aCons (sVar 7) aNil)))))
  (sSeq (sFor (iSq (sBin gAdd (sTrim (sLstRg1 (sBin gAdd (sVar 4) (sC (.int 1))))) (sLst (aCons (sCall F__law_take 2 0 g2__law_take (aCons (sVar 2) (aCons (sBin gAdd (sVar 4) (sC (.int 1))) aNil)) aNil) (aCons (sC (.int 0)) (aCons (sVar 4) aNil)))))) (fName 9)
  (sSeq (sPar 10 11 (aCons (sMeth (m := "held") "Task" F_Task_held 1 g2_Task_held (sVar 8) (aCons (sVar 9) aNil)) (aCons (sMethK (m := "held") "Task" F_Task_held 1 g1_done_Task_held (sVar 8) (aCons (sVar 9) aNil)) aNil)))
  (sIf (sOr (sNot (sTru (sIsi CS [(.b "tuple")] (sVar 10)))) (sOr (sTB (sBin gNe (sVar 10) (sCall F__law_due_at 2 0 g2__law_due_at (aCons (sVar 7) (aCons (sVar 9) aNil)) aNil))) (sTB (sBin gNe (sVar 11) (sVar 10)))))
  (sRet (sC (.bl false)))
  sNext)))
  (sSeq (sSet 12 (sLst (aCons (sBin gSub (sC (.int 0)) (sC (.int 1))) (aCons (sBin gAdd (sVar 4) (sC (.int 1))) (aCons (sBin gPow (sC (.int 10)) (sC (.int 30))) (aCons (sBin gSub (sC (.int 0)) (sBin gPow (sC (.int 10)) (sC (.int 30)))) (aCons (sC (.bl true)) (aCons (sC (.bl false)) (aCons (sC .non) (aCons (sC (.str "0")) (aCons (sC (.str "")) (aCons (sTup aNil) (aCons (sTup (aCons (sC (.int 0)) aNil)) (aCons (sLst aNil) (aCons (sLst (aCons (sC (.int 1)) aNil)) (aCons (sC (.dct [])) (aCons (sTup (aCons (sLst aNil) aNil)) (aCons (sVar 8) aNil))))))))))))))))))
  (sSeq (sSet 13 (sCall F__law_take 2 0 g2__law_take (aCons (sVar 2) (aCons (sC (.int 16)) aNil)) aNil))
  (sSeq (sFor (iSq (sLst (aCons (sBin gIx (sVar 12) (sVar 13)) (aCons (sC (.bl true)) (aCons (sC (.bl false)) (aCons (sBin gAdd (sVar 4) (sC (.int 1))) aNil)))))) (fName 14)
  (sIf (sNot (sTru (sCall F__law_refused 3 0 g3__law_refused (aCons (sVar 8) (aCons (sVar 14) (aCons (sBin gEq (sCall F__law_take 2 0 g2__law_take (aCons (sVar 2) (aCons (sC (.int 2)) aNil)) aNil) (sC (.int 1))) aNil))) aNil)))
  (sRet (sC (.bl false)))
  sNext))
  (sIf (sOr (sTB (sBin gNe (sMeth (m := "held") "Task" F_Task_held 1 g2_Task_held (sVar 8) (aCons (sC (.int 0)) aNil)) (sTup aNil))) (sTB (sBin gNe (sMeth (m := "held") "Task" F_Task_held 1 g2_Task_held (sVar 8) (aCons (sVar 4) aNil)) (sTup aNil))))
  (sRet (sC (.bl false)))
  sNext)))))))))
  (sRet (sC (.bl true))))
def F_law : Fs := runB 15 f_law
end Law_k03

end

namespace Law_k03
open PySem PySem.Spec PyProof.Rows L2 G
def top (i : Nat) : Stmt := PySem.Challenge.pw_duetimes_k03_what_is_held_when.main.body.getD i (.Pass ⟨0, 0, 0, 0⟩)
def d__law_purse : He.DefD := ⟨("_law_purse", none), "_law_purse", "_law_purse", defArgs (top 27), defBody (top 27), defScope (top 27), [], []⟩
def d__law_cell : He.DefD := ⟨("_law_cell", none), "_law_cell", "_law_cell", defArgs (top 26), defBody (top 26), defScope (top 26), [], []⟩
def d__law_take : He.DefD := ⟨("_law_take", none), "_law_take", "_law_take", defArgs (top 28), defBody (top 28), defScope (top 28), [], []⟩
def d__law_words : He.DefD := ⟨("_law_words", none), "_law_words", "_law_words", defArgs (top 29), defBody (top 29), defScope (top 29), [], []⟩
def d__law_holds : He.DefD := ⟨("_law_holds", none), "_law_holds", "_law_holds", defArgs (top 30), defBody (top 30), defScope (top 30), [], []⟩
def d__law_drawn : He.DefD := ⟨("_law_drawn", none), "_law_drawn", "_law_drawn", defArgs (top 31), defBody (top 31), defScope (top 31), [], []⟩
def d_is_name : He.DefD := ⟨("is_name", none), "is_name", "is_name", defArgs (top 15), defBody (top 15), defScope (top 15), [], []⟩
def d_is_whole : He.DefD := ⟨("is_whole", none), "is_whole", "is_whole", defArgs (top 12), defBody (top 12), defScope (top 12), [], []⟩
def d_is_within : He.DefD := ⟨("is_within", none), "is_within", "is_within", defArgs (top 13), defBody (top 13), defScope (top 13), [], []⟩
def d_is_hold : He.DefD := ⟨("is_hold", none), "is_hold", "is_hold", defArgs (top 16), defBody (top 16), defScope (top 16), [], []⟩
def d_are_holds : He.DefD := ⟨("are_holds", none), "are_holds", "are_holds", defArgs (top 17), defBody (top 17), defScope (top 17), [], []⟩
def d_Task___init__ : He.DefD := ⟨("Task", some "__init__"), "__init__", "Task.__init__", defArgs (inClass (top 18) 0), defBody (inClass (top 18) 0), defScope (inClass (top 18) 0), [], [("due", .non), ("holds", .adr (kwdAt ("Task", some "__init__") "holds"))]⟩
def d_check_within : He.DefD := ⟨("check_within", none), "check_within", "check_within", defArgs (top 14), defBody (top 14), defScope (top 14), [], []⟩
def d_Task_held : He.DefD := ⟨("Task", some "held"), "held", "Task.held", defArgs (inClass (top 18) 5), defBody (inClass (top 18) 5), defScope (inClass (top 18) 5), [], []⟩
def d__law_due_at : He.DefD := ⟨("_law_due_at", none), "_law_due_at", "_law_due_at", defArgs (top 32), defBody (top 32), defScope (top 32), [], []⟩
def d_Task___repr__ : He.DefD := ⟨("Task", some "__repr__"), "__repr__", "Task.__repr__", defArgs (inClass (top 18) 4), defBody (inClass (top 18) 4), defScope (inClass (top 18) 4), [], []⟩
def d__law_refused : He.DefD := ⟨("_law_refused", none), "_law_refused", "_law_refused", defArgs (top 33), defBody (top 33), defScope (top 33), [], []⟩
def d_law : He.DefD := ⟨("law", none), "law", "law", defArgs (top 34), defBody (top 34), defScope (top 34), [], []⟩
def d_NoTask___init__ : He.DefD := ⟨("NoTask", some "__init__"), "__init__", "NoTask.__init__", defArgs (inClass (top 2) 0), defBody (inClass (top 2) 0), defScope (inClass (top 2) 0), [], []⟩
def d_NoNumber___init__ : He.DefD := ⟨("NoNumber", some "__init__"), "__init__", "NoNumber.__init__", defArgs (inClass (top 4) 0), defBody (inClass (top 4) 0), defScope (inClass (top 4) 0), [], []⟩
def fn : List He.DefD := [d__law_purse, d__law_cell, d__law_take, d__law_words, d__law_holds, d__law_drawn, d_is_name, d_is_whole, d_is_within, d_is_hold, d_are_holds, d_Task___init__, d_check_within, d_Task_held, d__law_due_at, d_Task___repr__, d__law_refused, d_law, d_NoTask___init__, d_NoNumber___init__]
def fbs : List Fb := [.fa (.free "len"), .fa (.free "min"), .fa (.free "max"), .fa (.free "range"), .fa (.free "abs"), .fa (.glo "_law_cell"), .fa (.glo "_law_purse"), .fa (.glo "_law_take"), .fa (.glo "_law_words"), .fa (.free "sorted"), .fa (.free "tuple"), .fa (.glo "_law_holds"), .fa (.glo "_law_drawn"), .isf CS, .fa (.free "str"), .fa (.free "isinstance"), .fa (.int "MOST_LETTERS" 8), .fa (.str "LETTERS" "abcdefghijklmnopqrstuvwxyz"), .fa (.free "all"), .fa (.glo "is_name"), .xi "NoTask" "part", .xc "NoTask" 0, .fa (.glo "NoTask"), .fa (.free "int"), .fa (.free "bool"), .fa (.glo "is_whole"), .fa (.int "MOST_COST" 99), .fa (.glo "is_within"), .fa (.int "MOST_GAP" 600), .fa (.int "MOST_HOLDS" 4), .fa (.glo "is_hold"), .fa (.free "zip"), .fa (.glo "are_holds"), .fld ["Task"] "gap", .fld ["Task"] "cost", .fld ["Task"] "name", .fld ["Task"] "due", .fld ["Task"] "holds", .fld ["Task"] "spans", .fa (.mkr "Task"), .fa (.glo "Task"), .fa (.free "list"), .xi "NoNumber" "number", .xc "NoNumber" 0, .fa (.glo "NoNumber"), .fa (.glo "check_within"), .fa (.cls "Task"), .fa (.meth "Task" "held"), .fa (.glo "_law_due_at"), .fa (.glo "TimeError"), .fa (.glo "LostError"), .exm anc ["TimeError", "LostError"], .ism anc [.o "NoTask", .o "LostError"], .ism anc [.o "NoNumber"], .ism anc [.b "ValueError" "ValueError"], .fa (.free "ValueError"), .fld ["Task", "Door"] "name", .xf ["NoNumber"] "number", .fa (.free "repr"), .fa (.glo "_law_refused"), .fa (.meth "Task" "__repr__"), .fa (.glo "law")]
end Law_k03

namespace Law_k03
open PySem PySem.Spec PyProof.Rows L2 G
def lo0 : List PySem.Str := ["TimeError", "NoTask", "NoDoor", "NoNumber", "LostError", "LETTERS", "MOST_LETTERS", "MOST_COST", "MOST_GAP", "MOST_HOLDS", "is_whole", "is_within", "check_within", "is_name", "is_hold", "are_holds", "Task", "Door", "cost_of", "due_of", "holds_of", "values_of", "row_of", "_law_cell", "_law_purse", "_law_take", "_law_words", "_law_holds", "_law_drawn", "_law_due_at"]
def lo1 : List PySem.Str := ["_law_refused"]
abbrev loose : List PySem.Str := lo0 ++ lo1
abbrev R0 : PySem.W.OpenRow := PySem.W.OpenLaw.row PySem.Challenge.rw_duetimes_k03_what_is_held_when
def ex (K : PySem.W.Frag) : Bool := fbs.all fun f => f.ok K
abbrev hk : PySem.W.Hook := He.hookX 6 [] fn [] [] ex
def ob (s : PySem.W.SharedT) : He.AlX := He.obsX 6 [] fn [] [] ex (HandSHeadRun.getT s)
theorem ob_eq (s : PySem.W.SharedT) : ob s = hk.obs s.abs := He.obsX_eq (HandSHeadRun.getT_eq s)
theorem run (w : World) : HandSHeadRun.RunEq R0 (PySem.W.view R0.prog [34]) hk ob 6000 loose w := by
  intro os
  kernel_rfl
end Law_k03

namespace Law_k03
open PySem PySem.Spec PyProof.Rows L2 G
theorem list_len1 {α : Type} {l : List α} (h : l.length = 1) : ∃ x0 : α, l = [x0] := by
  match l, h with
  | [x0], _ => exact ⟨x0, rfl⟩
theorem list_len2 {α : Type} {l : List α} (h : l.length = 2) : ∃ x0 x1 : α, l = [x0, x1] := by
  match l, h with
  | [x0, x1], _ => exact ⟨x0, x1, rfl⟩
theorem list_len3 {α : Type} {l : List α} (h : l.length = 3) : ∃ x0 x1 x2 : α, l = [x0, x1, x2] := by
  match l, h with
  | [x0, x1, x2], _ => exact ⟨x0, x1, x2, rfl⟩
theorem list_len4 {α : Type} {l : List α} (h : l.length = 4) : ∃ x0 x1 x2 x3 : α, l = [x0, x1, x2, x3] := by
  match l, h with
  | [x0, x1, x2, x3], _ => exact ⟨x0, x1, x2, x3, rfl⟩
theorem list_len5 {α : Type} {l : List α} (h : l.length = 5) : ∃ x0 x1 x2 x3 x4 : α, l = [x0, x1, x2, x3, x4] := by
  match l, h with
  | [x0, x1, x2, x3, x4], _ => exact ⟨x0, x1, x2, x3, x4, rfl⟩
theorem list_len6 {α : Type} {l : List α} (h : l.length = 6) : ∃ x0 x1 x2 x3 x4 x5 : α, l = [x0, x1, x2, x3, x4, x5] := by
  match l, h with
  | [x0, x1, x2, x3, x4, x5], _ => exact ⟨x0, x1, x2, x3, x4, x5, rfl⟩
theorem list_len7 {α : Type} {l : List α} (h : l.length = 7) : ∃ x0 x1 x2 x3 x4 x5 x6 : α, l = [x0, x1, x2, x3, x4, x5, x6] := by
  match l, h with
  | [x0, x1, x2, x3, x4, x5, x6], _ => exact ⟨x0, x1, x2, x3, x4, x5, x6, rfl⟩
theorem list_len8 {α : Type} {l : List α} (h : l.length = 8) : ∃ x0 x1 x2 x3 x4 x5 x6 x7 : α, l = [x0, x1, x2, x3, x4, x5, x6, x7] := by
  match l, h with
  | [x0, x1, x2, x3, x4, x5, x6, x7], _ => exact ⟨x0, x1, x2, x3, x4, x5, x6, x7, rfl⟩
section
variable {P : Program} {w : World} {K : PySem.W.Frag} {mg : Str → Option Value} {base : Heap}
theorem fd_NoTask___init__ (F : Fc fbs fn K mg) : FunD K d_NoTask___init__.name d_NoTask___init__.qual d_NoTask___init__.params d_NoTask___init__.body d_NoTask___init__.scope (d_NoTask___init__.dvs K) (d_NoTask___init__.kws K) (He.fAd K ("NoTask", some "__init__")) (fdOf K ("NoTask", some "__init__")) := F.fun_ 18
theorem sc_NoTask___init__ : FnScope ["self", "part"] ["self", "part"] d_NoTask___init__.scope := ⟨by rfl, by rfl, by rfl, by decide, by rfl, by decide +kernel, by decide +kernel⟩
theorem io_NoTask (F : Fc fbs fn K mg) : FnOk P w K mg base (L2.CX P w) 1 (He.fAd K ("NoTask", some "__init__")) (fdOf K ("NoTask", some "__init__")) ["self", "part"] (spI1 K "part") := init1_ok (fd_NoTask___init__ F) sc_NoTask___init__ rfl rfl
theorem ib_NoTask (F : Fc fbs fn K mg) : Binds K (fdOf K ("NoTask", some "__init__")) ["self", "part"] [] := (fd_NoTask___init__ F).bindsN fun kV doc pm an cdv ct us h => by
  obtain ⟨u0, u1, rfl⟩ := list_len2 h
  rfl
theorem fd_NoNumber___init__ (F : Fc fbs fn K mg) : FunD K d_NoNumber___init__.name d_NoNumber___init__.qual d_NoNumber___init__.params d_NoNumber___init__.body d_NoNumber___init__.scope (d_NoNumber___init__.dvs K) (d_NoNumber___init__.kws K) (He.fAd K ("NoNumber", some "__init__")) (fdOf K ("NoNumber", some "__init__")) := F.fun_ 19
theorem sc_NoNumber___init__ : FnScope ["self", "number"] ["self", "number"] d_NoNumber___init__.scope := ⟨by rfl, by rfl, by rfl, by decide, by rfl, by decide +kernel, by decide +kernel⟩
theorem io_NoNumber (F : Fc fbs fn K mg) : FnOk P w K mg base (L2.CX P w) 1 (He.fAd K ("NoNumber", some "__init__")) (fdOf K ("NoNumber", some "__init__")) ["self", "number"] (spI1 K "number") := init1_ok (fd_NoNumber___init__ F) sc_NoNumber___init__ rfl rfl
theorem ib_NoNumber (F : Fc fbs fn K mg) : Binds K (fdOf K ("NoNumber", some "__init__")) ["self", "number"] [] := (fd_NoNumber___init__ F).bindsN fun kV doc pm an cdv ct us h => by
  obtain ⟨u0, u1, rfl⟩ := list_len2 h
  rfl
theorem fd__law_purse (F : Fc fbs fn K mg) : FunD K d__law_purse.name d__law_purse.qual d__law_purse.params d__law_purse.body d__law_purse.scope (d__law_purse.dvs K) (d__law_purse.kws K) (He.fAd K ("_law_purse", none)) (fdOf K ("_law_purse", none)) := F.fun_ 0
theorem sc__law_purse : FnScope N__law_purse ["_law_cell_here"] d__law_purse.scope := ⟨by rfl, by rfl, by rfl, by decide, by rfl, by decide +kernel, by decide +kernel⟩
theorem b1__law_purse (F : Fc fbs fn K mg) : DBn K mg (fdOf K ("_law_purse", none)) ["_law_cell_here"] 1 [] g1__law_purse := dbn_all ((fd__law_purse F).bindsN fun kV doc pm an cdv ct us h => by
  obtain ⟨u0, rfl⟩ := list_len1 h
  rfl)
theorem gl1__law_purse (ds es : List D) (h1 : ds.length = 1) (h2 : es.length = 0) : (g1__law_purse ds es).length = 1 := h1
theorem w__law_purse (F : Fc fbs fn K mg) : FnG P w K mg base 1 (He.fAd K ("_law_purse", none)) (fdOf K ("_law_purse", none)) ["_law_cell_here"] F__law_purse := fn_ok (fd__law_purse F) sc__law_purse fun cdv A outer s H E hr => by
  have nd : N__law_purse.Nodup := sc__law_purse.nd
  exact (rs_cons (rs_set (i := 1) nd (by rfl) (by first | exact Or.inl rfl | exact Or.inr rfl) re_int)
  (rs_cons (rs_if (RW.rt (rw_or (rt_lt (rv 0) re_int) (rw_or1 (rt_ge (rv 0) (re_pow re_int re_int)))))
  (rs_one (rs_set (i := 1) nd (by rfl) (by first | exact Or.inl rfl | exact Or.inr rfl) (rb_abs (by rfl) (F.free 4) (ra_cons (rv 0) ra_nil))))
  rs_nil)
  (rs_one (rs_ret (re_lstR (ra_cons (re_mod (rv 0) re_int) (ra_cons (rv 1) (ra_cons re_int ra_nil))))))))
theorem fd__law_cell (F : Fc fbs fn K mg) : FunD K d__law_cell.name d__law_cell.qual d__law_cell.params d__law_cell.body d__law_cell.scope (d__law_cell.dvs K) (d__law_cell.kws K) (He.fAd K ("_law_cell", none)) (fdOf K ("_law_cell", none)) := F.fun_ 1
theorem sc__law_cell : FnScope N__law_cell ["_law_script", "_law_k"] d__law_cell.scope := ⟨by rfl, by rfl, by rfl, by decide, by rfl, by decide +kernel, by decide +kernel⟩
theorem b2__law_cell (F : Fc fbs fn K mg) : DBn K mg (fdOf K ("_law_cell", none)) ["_law_script", "_law_k"] 2 [] g2__law_cell := dbn_all ((fd__law_cell F).bindsN fun kV doc pm an cdv ct us h => by
  obtain ⟨u0, u1, rfl⟩ := list_len2 h
  rfl)
theorem gl2__law_cell (ds es : List D) (h1 : ds.length = 2) (h2 : es.length = 0) : (g2__law_cell ds es).length = 2 := h1
theorem w__law_cell (F : Fc fbs fn K mg) : FnG P w K mg base 1 (He.fAd K ("_law_cell", none)) (fdOf K ("_law_cell", none)) ["_law_script", "_law_k"] F__law_cell := fn_ok (fd__law_cell F) sc__law_cell fun cdv A outer s H E hr => by
  have nd : N__law_cell.Nodup := sc__law_cell.nd
  exact (rs_cons (rs_if (rt_lt (rv 1) (rb_len (by rfl) (F.free 0) (ra_cons (rv 0) ra_nil)))
  (rs_one (rs_ret (re_ix hr.rm (rv 0) (rv 1))))
  rs_nil)
  (rs_cons (rs_set (i := 2) nd (by rfl) (by first | exact Or.inl rfl | exact Or.inr rfl) (re_mod (re_mul re_int (re_add (re_add (re_mul (rv 1) (rv 1)) (re_mul re_int (rv 1))) re_int)) re_int))
  (rs_cons (rs_for (passes_of rfl) rfl (ri_sq (re_sl (rv 0) ro_none (ro_some re_int))) (pg_name (i := 3) nd (by rfl) (by first | exact Or.inl rfl | exact Or.inr rfl)) (tg_name 3)
  (rs_one (rs_set (i := 2) nd (by rfl) (by first | exact Or.inl rfl | exact Or.inr rfl) (re_mod (re_add (re_mul (rv 2) re_int) (rv 3)) re_int))))
  (rs_one (rs_ret (rv 2))))))
theorem fd__law_take (F : Fc fbs fn K mg) : FunD K d__law_take.name d__law_take.qual d__law_take.params d__law_take.body d__law_take.scope (d__law_take.dvs K) (d__law_take.kws K) (He.fAd K ("_law_take", none)) (fdOf K ("_law_take", none)) := F.fun_ 2
theorem sc__law_take : FnScope N__law_take ["_law_purse_here", "_law_many"] d__law_take.scope := ⟨by rfl, by rfl, by rfl, by decide, by rfl, by decide +kernel, by decide +kernel⟩
theorem b2__law_take (F : Fc fbs fn K mg) : DBn K mg (fdOf K ("_law_take", none)) ["_law_purse_here", "_law_many"] 2 [] g2__law_take := dbn_all ((fd__law_take F).bindsN fun kV doc pm an cdv ct us h => by
  obtain ⟨u0, u1, rfl⟩ := list_len2 h
  rfl)
theorem gl2__law_take (ds es : List D) (h1 : ds.length = 2) (h2 : es.length = 0) : (g2__law_take ds es).length = 2 := h1
theorem w__law_take (F : Fc fbs fn K mg) : FnG P w K mg base 1 (He.fAd K ("_law_take", none)) (fdOf K ("_law_take", none)) ["_law_purse_here", "_law_many"] F__law_take := fn_ok (fd__law_take F) sc__law_take fun cdv A outer s H E hr => by
  have nd : N__law_take.Nodup := sc__law_take.nd
  exact (rs_cons (rs_setIx (re_add (re_ix hr.rm (rv 0) re_int) re_int) (rv 0) re_int (fun _ => rfl))
  (rs_cons (rs_set (i := 2) nd (by rfl) (by first | exact Or.inl rfl | exact Or.inr rfl) (re_ix hr.rm (rv 0) re_int))
  (rs_cons (rs_setIx (re_mod (re_add (re_add (re_mul (rv 2) (re_add (re_mod (rv 2) re_int) re_int)) (re_mul re_int (re_ix hr.rm (rv 0) re_int))) re_int) re_int) (rv 0) re_int (fun _ => rfl))
  (rs_cons (rs_if (rt_gt (re_ix hr.rm (rv 0) re_int) re_int)
  (rs_cons (rs_set (i := 3) nd (by rfl) (by first | exact Or.inl rfl | exact Or.inr rfl) (re_mod (re_ix hr.rm (rv 0) re_int) (rv 1)))
  (rs_cons (rs_setIx (re_div (re_ix hr.rm (rv 0) re_int) (rv 1)) (rv 0) re_int (fun _ => rfl))
  (rs_one (rs_ret (rv 3)))))
  rs_nil)
  (rs_one (rs_ret (re_mod (re_div (re_ix hr.rm (rv 0) re_int) re_int) (rv 1))))))))
theorem fd__law_words (F : Fc fbs fn K mg) : FunD K d__law_words.name d__law_words.qual d__law_words.params d__law_words.body d__law_words.scope (d__law_words.dvs K) (d__law_words.kws K) (He.fAd K ("_law_words", none)) (fdOf K ("_law_words", none)) := F.fun_ 3
theorem sc__law_words : FnScope N__law_words ["_law_purse_here", "_law_many"] d__law_words.scope := ⟨by rfl, by rfl, by rfl, by decide, by rfl, by decide +kernel, by decide +kernel⟩
theorem b2__law_words (F : Fc fbs fn K mg) : DBn K mg (fdOf K ("_law_words", none)) ["_law_purse_here", "_law_many"] 2 [] g2__law_words := dbn_all ((fd__law_words F).bindsN fun kV doc pm an cdv ct us h => by
  obtain ⟨u0, u1, rfl⟩ := list_len2 h
  rfl)
theorem gl2__law_words (ds es : List D) (h1 : ds.length = 2) (h2 : es.length = 0) : (g2__law_words ds es).length = 2 := h1
theorem w__law_words (F : Fc fbs fn K mg) : FnG P w K mg base 2 (He.fAd K ("_law_words", none)) (fdOf K ("_law_words", none)) ["_law_purse_here", "_law_many"] F__law_words := fn_ok (fd__law_words F) sc__law_words fun cdv A outer s H E hr => by
  have nd : N__law_words.Nodup := sc__law_words.nd
  exact (rs_cons (rs_set (i := 2) nd (by rfl) (by first | exact Or.inl rfl | exact Or.inr rfl) (re_lst (ra_cons re_str (ra_cons re_str (ra_cons re_str (ra_cons re_str (ra_cons re_str (ra_cons re_str (ra_cons re_str (ra_cons re_str (ra_cons re_str (ra_cons re_str (ra_cons re_str (ra_cons re_str ra_nil))))))))))))))
  (rs_cons (rs_asg (re_tup (ra_cons (re_call (w__law_take F) (hr.mono (by decide)) (Nat.le_refl _) (by rfl) (F.glo 7) (fd__law_take F).kp (b2__law_take F) (by intro ds es h1 h2; exact gl2__law_take ds es h1 h2) (ra_cons (rv 0) (ra_cons re_int ra_nil))) (ra_cons (re_ix hr.rm (re_lst (ra_cons re_int (ra_cons re_int (ra_cons re_int (ra_cons re_int ra_nil))))) (re_call (w__law_take F) (hr.mono (by decide)) (Nat.le_refl _) (by rfl) (F.glo 7) (fd__law_take F).kp (b2__law_take F) (by intro ds es h1 h2; exact gl2__law_take ds es h1 h2) (ra_cons (rv 0) (ra_cons re_int ra_nil)))) ra_nil))) (pg_tupL rfl (pgs_cons (pg_name (i := 3) nd (by rfl) (by first | exact Or.inl rfl | exact Or.inr rfl)) (pgs_cons (pg_name (i := 4) nd (by rfl) (by first | exact Or.inl rfl | exact Or.inr rfl)) pgs_nil))) (tg_tup (tg_cons (tg_name 3) (tg_cons (tg_name 4) tg_nil))))
  (rs_cons (rs_if (rt_eq hr.rm (re_call (w__law_take F) (hr.mono (by decide)) (Nat.le_refl _) (by rfl) (F.glo 7) (fd__law_take F).kp (b2__law_take F) (by intro ds es h1 h2; exact gl2__law_take ds es h1 h2) (ra_cons (rv 0) (ra_cons re_int ra_nil))) re_int)
  (rs_one (rs_ret (re_trim (re_lr (own := [("_law_k", 9)]) rfl nd (ri_rg1 (by rfl) (F.free 3) (rv 1)) (blkOk_by (own := [("_law_k", 9)]) (N := N__law_words) (sc := (defScope (top 29))) (by decide +kernel)) (fun _ _ _ _ _ => (pg_name (i := 9) nd (by rfl) (by first | exact Or.inl rfl | exact Or.inr rfl))) (tg_name 9) (by decide) (fun _ _ _ _ _ => rts_nil) (fun _ _ _ _ _ => (re_ix hr.rm (rv 2) (re_mod (re_add (rv 3) (re_mul (rv 4) (rv 9))) re_int)))))))
  rs_nil)
  (rs_cons (rs_set (i := 5) nd (by rfl) (by first | exact Or.inl rfl | exact Or.inr rfl) re_str)
  (rs_cons (rs_set (i := 6) nd (by rfl) (by first | exact Or.inl rfl | exact Or.inr rfl) (rm_join re_str (ra_cons (re_trim (re_lr (own := [("_law_k", 9)]) rfl nd (ri_rg1 (by rfl) (F.free 3) (re_call (w__law_take F) (hr.mono (by decide)) (Nat.le_refl _) (by rfl) (F.glo 7) (fd__law_take F).kp (b2__law_take F) (by intro ds es h1 h2; exact gl2__law_take ds es h1 h2) (ra_cons (rv 0) (ra_cons re_int ra_nil)))) (blkOk_by (own := [("_law_k", 9)]) (N := N__law_words) (sc := (defScope (top 29))) (by decide +kernel)) (fun _ _ _ _ _ => (pg_name (i := 9) nd (by rfl) (by first | exact Or.inl rfl | exact Or.inr rfl))) (tg_name 9) (by decide) (fun _ _ _ _ _ => rts_nil) (fun _ _ _ _ _ => (re_ix hr.rm (rv 5) (re_call (w__law_take F) (hr.mono (by decide)) (Nat.le_refl _) (by rfl) (F.glo 7) (fd__law_take F).kp (b2__law_take F) (by intro ds es h1 h2; exact gl2__law_take ds es h1 h2) (ra_cons (rv 0) (ra_cons re_int ra_nil))))))) ra_nil)))
  (rs_cons (rs_asg (re_tup (ra_cons (re_call (w__law_take F) (hr.mono (by decide)) (Nat.le_refl _) (by rfl) (F.glo 7) (fd__law_take F).kp (b2__law_take F) (by intro ds es h1 h2; exact gl2__law_take ds es h1 h2) (ra_cons (rv 0) (ra_cons (re_add (rb_len (by rfl) (F.free 0) (ra_cons (rv 6) ra_nil)) re_int) ra_nil))) (ra_cons (re_call (w__law_take F) (hr.mono (by decide)) (Nat.le_refl _) (by rfl) (F.glo 7) (fd__law_take F).kp (b2__law_take F) (by intro ds es h1 h2; exact gl2__law_take ds es h1 h2) (ra_cons (rv 0) (ra_cons re_int ra_nil))) ra_nil))) (pg_tupL rfl (pgs_cons (pg_name (i := 7) nd (by rfl) (by first | exact Or.inl rfl | exact Or.inr rfl)) (pgs_cons (pg_name (i := 8) nd (by rfl) (by first | exact Or.inl rfl | exact Or.inr rfl)) pgs_nil))) (tg_tup (tg_cons (tg_name 7) (tg_cons (tg_name 8) tg_nil))))
  (rs_one (rs_ret (re_trim (re_lr (own := [("_law_k", 9)]) rfl nd (ri_rg1 (by rfl) (F.free 3) (rv 1)) (blkOk_by (own := [("_law_k", 9)]) (N := N__law_words) (sc := (defScope (top 29))) (by decide +kernel)) (fun _ _ _ _ _ => (pg_name (i := 9) nd (by rfl) (by first | exact Or.inl rfl | exact Or.inr rfl))) (tg_name 9) (by decide) (fun _ _ _ _ _ => rts_nil) (fun _ _ _ _ _ => (re_add (re_add (re_sl (rv 6) ro_none (ro_some (rv 7))) (re_ix hr.rm (rv 5) (re_mod (re_add (rv 8) (re_mul (rv 4) (rv 9))) re_int))) (re_sl (rv 6) (ro_some (rv 7)) ro_none)))))))))))))
theorem fd__law_holds (F : Fc fbs fn K mg) : FunD K d__law_holds.name d__law_holds.qual d__law_holds.params d__law_holds.body d__law_holds.scope (d__law_holds.dvs K) (d__law_holds.kws K) (He.fAd K ("_law_holds", none)) (fdOf K ("_law_holds", none)) := F.fun_ 4
theorem sc__law_holds : FnScope N__law_holds ["_law_purse_here", "_law_cost", "_law_tools"] d__law_holds.scope := ⟨by rfl, by rfl, by rfl, by decide, by rfl, by decide +kernel, by decide +kernel⟩
theorem b3__law_holds (F : Fc fbs fn K mg) : DBn K mg (fdOf K ("_law_holds", none)) ["_law_purse_here", "_law_cost", "_law_tools"] 3 [] g3__law_holds := dbn_all ((fd__law_holds F).bindsN fun kV doc pm an cdv ct us h => by
  obtain ⟨u0, u1, u2, rfl⟩ := list_len3 h
  rfl)
theorem gl3__law_holds (ds es : List D) (h1 : ds.length = 3) (h2 : es.length = 0) : (g3__law_holds ds es).length = 3 := h1
theorem w__law_holds (F : Fc fbs fn K mg) : FnG P w K mg base 2 (He.fAd K ("_law_holds", none)) (fdOf K ("_law_holds", none)) ["_law_purse_here", "_law_cost", "_law_tools"] F__law_holds := fn_ok (fd__law_holds F) sc__law_holds fun cdv A outer s H E hr => by
  have nd : N__law_holds.Nodup := sc__law_holds.nd
  exact (rs_cons (rs_set (i := 3) nd (by rfl) (by first | exact Or.inl rfl | exact Or.inr rfl) (re_lstR ra_nil))
  (rs_cons (rs_for (passes_of rfl) rfl (ri_sq (rb_sorted (by rfl) (F.free 9) (ra_cons (rv 2) ra_nil))) (pg_name (i := 4) nd (by rfl) (by first | exact Or.inl rfl | exact Or.inr rfl)) (tg_name 4)
  (rs_one (rs_if (RW.rt (rw_and (rt_lt (rb_len (by rfl) (F.free 0) (ra_cons (rv 3) ra_nil)) re_int) (rw_and1 (rt_gt (re_call (w__law_take F) (hr.mono (by decide)) (Nat.le_refl _) (by rfl) (F.glo 7) (fd__law_take F).kp (b2__law_take F) (by intro ds es h1 h2; exact gl2__law_take ds es h1 h2) (ra_cons (rv 0) (ra_cons re_int ra_nil))) re_int))))
  (rs_cons (rs_set (i := 5) nd (by rfl) (by first | exact Or.inl rfl | exact Or.inr rfl) (re_call (w__law_take F) (hr.mono (by decide)) (Nat.le_refl _) (by rfl) (F.glo 7) (fd__law_take F).kp (b2__law_take F) (by intro ds es h1 h2; exact gl2__law_take ds es h1 h2) (ra_cons (rv 0) (ra_cons (rv 1) ra_nil))))
  (rs_cons (rs_set (i := 6) nd (by rfl) (by first | exact Or.inl rfl | exact Or.inr rfl) (re_add re_int (re_call (w__law_take F) (hr.mono (by decide)) (Nat.le_refl _) (by rfl) (F.glo 7) (fd__law_take F).kp (b2__law_take F) (by intro ds es h1 h2; exact gl2__law_take ds es h1 h2) (ra_cons (rv 0) (ra_cons (re_sub (rv 1) (rv 5)) ra_nil)))))
  (rs_cons (rs_expr (rm_append (rv 3) (ra_cons (re_tup (ra_cons (rv 4) (ra_cons (rv 5) (ra_cons (rv 6) ra_nil)))) ra_nil)))
  (rs_cons (rs_set (i := 7) nd (by rfl) (by first | exact Or.inl rfl | exact Or.inr rfl) (re_add (rv 5) (rv 6)))
  (rs_one (rs_if (RW.rt (rw_and (rt_lt (rb_len (by rfl) (F.free 0) (ra_cons (rv 3) ra_nil)) re_int) (rw_and (rt_lt (rv 7) (rv 1)) (rw_and1 (rt_eq hr.rm (re_call (w__law_take F) (hr.mono (by decide)) (Nat.le_refl _) (by rfl) (F.glo 7) (fd__law_take F).kp (b2__law_take F) (by intro ds es h1 h2; exact gl2__law_take ds es h1 h2) (ra_cons (rv 0) (ra_cons re_int ra_nil))) re_int)))))
  (rs_cons (rs_set (i := 5) nd (by rfl) (by first | exact Or.inl rfl | exact Or.inr rfl) (re_add (rv 7) (re_ix hr.rm (re_lst (ra_cons re_int (ra_cons (re_call (w__law_take F) (hr.mono (by decide)) (Nat.le_refl _) (by rfl) (F.glo 7) (fd__law_take F).kp (b2__law_take F) (by intro ds es h1 h2; exact gl2__law_take ds es h1 h2) (ra_cons (rv 0) (ra_cons (re_sub (rv 1) (rv 7)) ra_nil))) ra_nil))) (re_call (w__law_take F) (hr.mono (by decide)) (Nat.le_refl _) (by rfl) (F.glo 7) (fd__law_take F).kp (b2__law_take F) (by intro ds es h1 h2; exact gl2__law_take ds es h1 h2) (ra_cons (rv 0) (ra_cons re_int ra_nil))))))
  (rs_one (rs_expr (rm_append (rv 3) (ra_cons (re_tup (ra_cons (rv 4) (ra_cons (rv 5) (ra_cons (re_add re_int (re_call (w__law_take F) (hr.mono (by decide)) (Nat.le_refl _) (by rfl) (F.glo 7) (fd__law_take F).kp (b2__law_take F) (by intro ds es h1 h2; exact gl2__law_take ds es h1 h2) (ra_cons (rv 0) (ra_cons (re_sub (rv 1) (rv 5)) ra_nil)))) ra_nil)))) ra_nil)))))
  rs_nil))))))
  rs_nil)))
  (rs_one (rs_ret (rb_tuple (by rfl) (F.free 10) (ra_cons (rv 3) ra_nil))))))
theorem fd__law_drawn (F : Fc fbs fn K mg) : FunD K d__law_drawn.name d__law_drawn.qual d__law_drawn.params d__law_drawn.body d__law_drawn.scope (d__law_drawn.dvs K) (d__law_drawn.kws K) (He.fAd K ("_law_drawn", none)) (fdOf K ("_law_drawn", none)) := F.fun_ 5
theorem sc__law_drawn : FnScope N__law_drawn ["_law_purse_here"] d__law_drawn.scope := ⟨by rfl, by rfl, by rfl, by decide, by rfl, by decide +kernel, by decide +kernel⟩
theorem b1__law_drawn (F : Fc fbs fn K mg) : DBn K mg (fdOf K ("_law_drawn", none)) ["_law_purse_here"] 1 [] g1__law_drawn := dbn_all ((fd__law_drawn F).bindsN fun kV doc pm an cdv ct us h => by
  obtain ⟨u0, rfl⟩ := list_len1 h
  rfl)
theorem gl1__law_drawn (ds es : List D) (h1 : ds.length = 1) (h2 : es.length = 0) : (g1__law_drawn ds es).length = 1 := h1
theorem w__law_drawn (F : Fc fbs fn K mg) : FnG P w K mg base 3 (He.fAd K ("_law_drawn", none)) (fdOf K ("_law_drawn", none)) ["_law_purse_here"] F__law_drawn := fn_ok (fd__law_drawn F) sc__law_drawn fun cdv A outer s H E hr => by
  have nd : N__law_drawn.Nodup := sc__law_drawn.nd
  exact (rs_cons (rs_set (i := 1) nd (by rfl) (by first | exact Or.inl rfl | exact Or.inr rfl) (re_call (w__law_words F) (hr.mono (by decide)) (Nat.le_refl _) (by rfl) (F.glo 8) (fd__law_words F).kp (b2__law_words F) (by intro ds es h1 h2; exact gl2__law_words ds es h1 h2) (ra_cons (rv 0) (ra_cons re_int ra_nil))))
  (rs_cons (rs_set (i := 2) nd (by rfl) (by first | exact Or.inl rfl | exact Or.inr rfl) (re_ix hr.rm (re_lst (ra_cons re_int (ra_cons re_int (ra_cons re_int (ra_cons (re_add re_int (re_call (w__law_take F) (hr.mono (by decide)) (Nat.le_refl _) (by rfl) (F.glo 7) (fd__law_take F).kp (b2__law_take F) (by intro ds es h1 h2; exact gl2__law_take ds es h1 h2) (ra_cons (rv 0) (ra_cons re_int ra_nil)))) (ra_cons (re_add re_int (re_call (w__law_take F) (hr.mono (by decide)) (Nat.le_refl _) (by rfl) (F.glo 7) (fd__law_take F).kp (b2__law_take F) (by intro ds es h1 h2; exact gl2__law_take ds es h1 h2) (ra_cons (rv 0) (ra_cons re_int ra_nil)))) ra_nil)))))) (re_call (w__law_take F) (hr.mono (by decide)) (Nat.le_refl _) (by rfl) (F.glo 7) (fd__law_take F).kp (b2__law_take F) (by intro ds es h1 h2; exact gl2__law_take ds es h1 h2) (ra_cons (rv 0) (ra_cons re_int ra_nil)))))
  (rs_cons (rs_set (i := 3) nd (by rfl) (by first | exact Or.inl rfl | exact Or.inr rfl) (re_ix hr.rm (re_lst (ra_cons (re_add re_int (re_call (w__law_take F) (hr.mono (by decide)) (Nat.le_refl _) (by rfl) (F.glo 7) (fd__law_take F).kp (b2__law_take F) (by intro ds es h1 h2; exact gl2__law_take ds es h1 h2) (ra_cons (rv 0) (ra_cons re_int ra_nil)))) (ra_cons (re_add re_int (re_call (w__law_take F) (hr.mono (by decide)) (Nat.le_refl _) (by rfl) (F.glo 7) (fd__law_take F).kp (b2__law_take F) (by intro ds es h1 h2; exact gl2__law_take ds es h1 h2) (ra_cons (rv 0) (ra_cons re_int ra_nil)))) (ra_cons re_int (ra_cons re_int ra_nil))))) (re_call (w__law_take F) (hr.mono (by decide)) (Nat.le_refl _) (by rfl) (F.glo 7) (fd__law_take F).kp (b2__law_take F) (by intro ds es h1 h2; exact gl2__law_take ds es h1 h2) (ra_cons (rv 0) (ra_cons re_int ra_nil)))))
  (rs_cons (rs_set (i := 4) nd (by rfl) (by first | exact Or.inl rfl | exact Or.inr rfl) (re_ix hr.rm (re_lst (ra_cons re_non (ra_cons (rv 3) (ra_cons re_int (ra_cons (re_add re_int (re_call (w__law_take F) (hr.mono (by decide)) (Nat.le_refl _) (by rfl) (F.glo 7) (fd__law_take F).kp (b2__law_take F) (by intro ds es h1 h2; exact gl2__law_take ds es h1 h2) (ra_cons (rv 0) (ra_cons (rv 3) ra_nil)))) ra_nil))))) (re_call (w__law_take F) (hr.mono (by decide)) (Nat.le_refl _) (by rfl) (F.glo 7) (fd__law_take F).kp (b2__law_take F) (by intro ds es h1 h2; exact gl2__law_take ds es h1 h2) (ra_cons (rv 0) (ra_cons re_int ra_nil)))))
  (rs_one (rs_ret (re_tup (ra_cons (re_ix hr.rm (rv 1) re_int) (ra_cons (rv 2) (ra_cons (rv 3) (ra_cons (rv 4) (ra_cons (re_trim (re_call (w__law_holds F) (hr.mono (by decide)) (Nat.le_refl _) (by rfl) (F.glo 11) (fd__law_holds F).kp (b3__law_holds F) (by intro ds es h1 h2; exact gl3__law_holds ds es h1 h2) (ra_cons (rv 0) (ra_cons (rv 2) (ra_cons (re_sl (rv 1) ro_none (ro_some (re_call (w__law_take F) (hr.mono (by decide)) (Nat.le_refl _) (by rfl) (F.glo 7) (fd__law_take F).kp (b2__law_take F) (by intro ds es h1 h2; exact gl2__law_take ds es h1 h2) (ra_cons (rv 0) (ra_cons re_int ra_nil))))) ra_nil))))) ra_nil))))))))))))
theorem fd_is_name (F : Fc fbs fn K mg) : FunD K d_is_name.name d_is_name.qual d_is_name.params d_is_name.body d_is_name.scope (d_is_name.dvs K) (d_is_name.kws K) (He.fAd K ("is_name", none)) (fdOf K ("is_name", none)) := F.fun_ 6
theorem sc_is_name : FnScope N_is_name ["thing"] d_is_name.scope := ⟨by rfl, by rfl, by rfl, by decide, by rfl, by decide +kernel, by decide +kernel⟩
theorem b1_is_name (F : Fc fbs fn K mg) : DBn K mg (fdOf K ("is_name", none)) ["thing"] 1 [] g1_is_name := dbn_all ((fd_is_name F).bindsN fun kV doc pm an cdv ct us h => by
  obtain ⟨u0, rfl⟩ := list_len1 h
  rfl)
theorem gl1_is_name (ds es : List D) (h1 : ds.length = 1) (h2 : es.length = 0) : (g1_is_name ds es).length = 1 := h1
theorem w_is_name (F : Fc fbs fn K mg) : FnG P w K mg base 1 (He.fAd K ("is_name", none)) (fdOf K ("is_name", none)) ["thing"] F_is_name := fn_ok (fd_is_name F) sc_is_name fun cdv A outer s H E hr => by
  have nd : N_is_name.Nodup := sc_is_name.nd
  exact (rs_cons (rs_if (RW.rt (rw_or (rt_not (rt_val (re_isi (F.isf 13) (by rfl) (F.free 15) (rv 0) (pcl_b (by rfl) (F.free 14) (by decide +kernel) (by decide))))) (rw_or1 (rt_not (rt_chain (op_le.or op_le_str) (op_le.or op_le_str) g_ord g_ord re_int (rb_len (by rfl) (F.free 0) (ra_cons (rv 0) ra_nil)) (re_glob (by rfl) (F.int 16) (fun _ _ => by simp only [RD])))))))
  (rs_one (rs_ret re_bl))
  rs_nil)
  (rs_one (rs_ret (rb_all rfl (by rfl) (F.free 18) (ra_cons (re_trim (re_lr (own := [("sign", 1)]) rfl nd (ri_sq (rv 0)) (blkOk_by (own := [("sign", 1)]) (N := N_is_name) (sc := (defScope (top 15))) (by decide +kernel)) (fun _ _ _ _ _ => (pg_name (i := 1) nd (by rfl) (by first | exact Or.inl rfl | exact Or.inr rfl))) (tg_name 1) (by decide) (fun _ _ _ _ _ => rts_nil) (fun _ _ _ _ _ => (re_in hr.rm (rv 1) (re_glob (by rfl) (F.str 17) (fun _ _ => by simp only [RD])))))) ra_nil)))))
theorem fd_is_whole (F : Fc fbs fn K mg) : FunD K d_is_whole.name d_is_whole.qual d_is_whole.params d_is_whole.body d_is_whole.scope (d_is_whole.dvs K) (d_is_whole.kws K) (He.fAd K ("is_whole", none)) (fdOf K ("is_whole", none)) := F.fun_ 7
theorem sc_is_whole : FnScope N_is_whole ["thing"] d_is_whole.scope := ⟨by rfl, by rfl, by rfl, by decide, by rfl, by decide +kernel, by decide +kernel⟩
theorem b1_is_whole (F : Fc fbs fn K mg) : DBn K mg (fdOf K ("is_whole", none)) ["thing"] 1 [] g1_is_whole := dbn_all ((fd_is_whole F).bindsN fun kV doc pm an cdv ct us h => by
  obtain ⟨u0, rfl⟩ := list_len1 h
  rfl)
theorem gl1_is_whole (ds es : List D) (h1 : ds.length = 1) (h2 : es.length = 0) : (g1_is_whole ds es).length = 1 := h1
theorem w_is_whole (F : Fc fbs fn K mg) : FnG P w K mg base 1 (He.fAd K ("is_whole", none)) (fdOf K ("is_whole", none)) ["thing"] F_is_whole := fn_ok (fd_is_whole F) sc_is_whole fun cdv A outer s H E hr => by
  have nd : N_is_whole.Nodup := sc_is_whole.nd
  exact (rs_one (rs_ret (re_and (re_isi (F.isf 13) (by rfl) (F.free 15) (rv 0) (pcl_b (by rfl) (F.free 23) (by decide +kernel) (by decide))) (re_one (re_not (re_isi (F.isf 13) (by rfl) (F.free 15) (rv 0) (pcl_b (by rfl) (F.free 24) (by decide +kernel) (by decide))))))))
theorem fd_is_within (F : Fc fbs fn K mg) : FunD K d_is_within.name d_is_within.qual d_is_within.params d_is_within.body d_is_within.scope (d_is_within.dvs K) (d_is_within.kws K) (He.fAd K ("is_within", none)) (fdOf K ("is_within", none)) := F.fun_ 8
theorem sc_is_within : FnScope N_is_within ["thing", "least", "most"] d_is_within.scope := ⟨by rfl, by rfl, by rfl, by decide, by rfl, by decide +kernel, by decide +kernel⟩
theorem b3_is_within (F : Fc fbs fn K mg) : DBn K mg (fdOf K ("is_within", none)) ["thing", "least", "most"] 3 [] g3_is_within := dbn_all ((fd_is_within F).bindsN fun kV doc pm an cdv ct us h => by
  obtain ⟨u0, u1, u2, rfl⟩ := list_len3 h
  rfl)
theorem gl3_is_within (ds es : List D) (h1 : ds.length = 3) (h2 : es.length = 0) : (g3_is_within ds es).length = 3 := h1
theorem w_is_within (F : Fc fbs fn K mg) : FnG P w K mg base 2 (He.fAd K ("is_within", none)) (fdOf K ("is_within", none)) ["thing", "least", "most"] F_is_within := fn_ok (fd_is_within F) sc_is_within fun cdv A outer s H E hr => by
  have nd : N_is_within.Nodup := sc_is_within.nd
  exact (rs_one (rs_ret (re_and (re_call (w_is_whole F) (hr.mono (by decide)) (Nat.le_refl _) (by rfl) (F.glo 25) (fd_is_whole F).kp (b1_is_whole F) (by intro ds es h1 h2; exact gl1_is_whole ds es h1 h2) (ra_cons (rv 0) ra_nil)) (re_one (re_chain (op_le.or op_le_str) (op_le.or op_le_str) g_ord g_ord (rv 1) (rv 0) (rv 2))))))
theorem fd_is_hold (F : Fc fbs fn K mg) : FunD K d_is_hold.name d_is_hold.qual d_is_hold.params d_is_hold.body d_is_hold.scope (d_is_hold.dvs K) (d_is_hold.kws K) (He.fAd K ("is_hold", none)) (fdOf K ("is_hold", none)) := F.fun_ 9
theorem sc_is_hold : FnScope N_is_hold ["thing", "cost"] d_is_hold.scope := ⟨by rfl, by rfl, by rfl, by decide, by rfl, by decide +kernel, by decide +kernel⟩
theorem b2_is_hold (F : Fc fbs fn K mg) : DBn K mg (fdOf K ("is_hold", none)) ["thing", "cost"] 2 [] g2_is_hold := dbn_all ((fd_is_hold F).bindsN fun kV doc pm an cdv ct us h => by
  obtain ⟨u0, u1, rfl⟩ := list_len2 h
  rfl)
theorem gl2_is_hold (ds es : List D) (h1 : ds.length = 2) (h2 : es.length = 0) : (g2_is_hold ds es).length = 2 := h1
theorem w_is_hold (F : Fc fbs fn K mg) : FnG P w K mg base 3 (He.fAd K ("is_hold", none)) (fdOf K ("is_hold", none)) ["thing", "cost"] F_is_hold := fn_ok (fd_is_hold F) sc_is_hold fun cdv A outer s H E hr => by
  have nd : N_is_hold.Nodup := sc_is_hold.nd
  exact (rs_cons (rs_if (RW.rt (rw_or (rt_not (rt_val (re_isi (F.isf 13) (by rfl) (F.free 15) (rv 0) (pcl_b (by rfl) (F.free 10) (by decide +kernel) (by decide))))) (rw_or1 (rt_ne hr.rm (rb_len (by rfl) (F.free 0) (ra_cons (rv 0) ra_nil)) re_int))))
  (rs_one (rs_ret re_bl))
  rs_nil)
  (rs_cons (rs_asg (rv 0) (pg_tupL rfl (pgs_cons (pg_name (i := 2) nd (by rfl) (by first | exact Or.inl rfl | exact Or.inr rfl)) (pgs_cons (pg_name (i := 3) nd (by rfl) (by first | exact Or.inl rfl | exact Or.inr rfl)) (pgs_cons (pg_name (i := 4) nd (by rfl) (by first | exact Or.inl rfl | exact Or.inr rfl)) pgs_nil)))) (tg_tup (tg_cons (tg_name 2) (tg_cons (tg_name 3) (tg_cons (tg_name 4) tg_nil)))))
  (rs_one (rs_ret (re_and (re_call (w_is_name F) (hr.mono (by decide)) (Nat.le_refl _) (by rfl) (F.glo 19) (fd_is_name F).kp (b1_is_name F) (by intro ds es h1 h2; exact gl1_is_name ds es h1 h2) (ra_cons (rv 2) ra_nil)) (re_and (re_call (w_is_within F) (hr.mono (by decide)) (Nat.le_refl _) (by rfl) (F.glo 27) (fd_is_within F).kp (b3_is_within F) (by intro ds es h1 h2; exact gl3_is_within ds es h1 h2) (ra_cons (rv 3) (ra_cons re_int (ra_cons (rv 1) ra_nil)))) (re_and (re_call (w_is_within F) (hr.mono (by decide)) (Nat.le_refl _) (by rfl) (F.glo 27) (fd_is_within F).kp (b3_is_within F) (by intro ds es h1 h2; exact gl3_is_within ds es h1 h2) (ra_cons (rv 4) (ra_cons re_int (ra_cons (rv 1) ra_nil)))) (re_one (re_le (re_add (rv 3) (rv 4)) (rv 1))))))))))
theorem fd_are_holds (F : Fc fbs fn K mg) : FunD K d_are_holds.name d_are_holds.qual d_are_holds.params d_are_holds.body d_are_holds.scope (d_are_holds.dvs K) (d_are_holds.kws K) (He.fAd K ("are_holds", none)) (fdOf K ("are_holds", none)) := F.fun_ 10
theorem sc_are_holds : FnScope N_are_holds ["thing", "cost"] d_are_holds.scope := ⟨by rfl, by rfl, by rfl, by decide, by rfl, by decide +kernel, by decide +kernel⟩
theorem b2_are_holds (F : Fc fbs fn K mg) : DBn K mg (fdOf K ("are_holds", none)) ["thing", "cost"] 2 [] g2_are_holds := dbn_all ((fd_are_holds F).bindsN fun kV doc pm an cdv ct us h => by
  obtain ⟨u0, u1, rfl⟩ := list_len2 h
  rfl)
theorem gl2_are_holds (ds es : List D) (h1 : ds.length = 2) (h2 : es.length = 0) : (g2_are_holds ds es).length = 2 := h1
theorem w_are_holds (F : Fc fbs fn K mg) : FnG P w K mg base 4 (He.fAd K ("are_holds", none)) (fdOf K ("are_holds", none)) ["thing", "cost"] F_are_holds := fn_ok (fd_are_holds F) sc_are_holds fun cdv A outer s H E hr => by
  have nd : N_are_holds.Nodup := sc_are_holds.nd
  exact (rs_cons (rs_if (RW.rt (rw_or (rt_not (rt_val (re_isi (F.isf 13) (by rfl) (F.free 15) (rv 0) (pcl_b (by rfl) (F.free 10) (by decide +kernel) (by decide))))) (rw_or (rt_gt (rb_len (by rfl) (F.free 0) (ra_cons (rv 0) ra_nil)) (re_glob (by rfl) (F.int 29) (fun _ _ => by simp only [RD]))) (rw_or1 (rt_not (rt_val (rb_all rfl (by rfl) (F.free 18) (ra_cons (re_trim (re_lr (own := [("one", 2)]) rfl nd (ri_sq (rv 0)) (blkOk_by (own := [("one", 2)]) (N := N_are_holds) (sc := (defScope (top 17))) (by decide +kernel)) (fun _ _ _ _ _ => (pg_name (i := 2) nd (by rfl) (by first | exact Or.inl rfl | exact Or.inr rfl))) (tg_name 2) (by decide) (fun _ _ _ _ _ => rts_nil) (fun _ _ _ _ _ => (re_call (w_is_hold F) (hr.mono (by decide)) (Nat.le_refl _) (by rfl) (F.glo 30) (fd_is_hold F).kp (b2_is_hold F) (by intro ds es h1 h2; exact gl2_is_hold ds es h1 h2) (ra_cons (rv 2) (ra_cons (rv 1) ra_nil)))))) ra_nil))))))))
  (rs_one (rs_ret re_bl))
  rs_nil)
  (rs_cons (rs_for (passes_of rfl) rfl (ri_zp (by rfl) (F.free 31) (rv 0) (re_sl (rv 0) (ro_some re_int) ro_none)) (pg_tupL rfl (pgs_cons (pg_name (i := 2) nd (by rfl) (by first | exact Or.inl rfl | exact Or.inr rfl)) (pgs_cons (pg_name (i := 3) nd (by rfl) (by first | exact Or.inl rfl | exact Or.inr rfl)) pgs_nil))) (tg_tup (tg_cons (tg_name 2) (tg_cons (tg_name 3) tg_nil)))
  (rs_one (rs_if (RW.rt (rw_or (rt_geA hr.rm (rv 2) (rv 3)) (rw_or1 (RW.rt (rw_and (rt_eq hr.rm (re_ix hr.rm (rv 2) re_int) (re_ix hr.rm (rv 3) re_int)) (rw_and1 (rt_gt (re_add (re_ix hr.rm (rv 2) re_int) (re_ix hr.rm (rv 2) re_int)) (re_ix hr.rm (rv 3) re_int))))))))
  (rs_one (rs_ret re_bl))
  rs_nil)))
  (rs_one (rs_ret re_bl))))
theorem fd_Task___init__ (F : Fc fbs fn K mg) : FunD K d_Task___init__.name d_Task___init__.qual d_Task___init__.params d_Task___init__.body d_Task___init__.scope (d_Task___init__.dvs K) (d_Task___init__.kws K) (He.fAd K ("Task", some "__init__")) (fdOf K ("Task", some "__init__")) := F.fun_ 11
theorem sc_Task___init__ : FnScope N_Task___init__ ["self", "name", "cost", "gap", "due", "holds"] d_Task___init__.scope := ⟨by rfl, by rfl, by rfl, by decide, by rfl, by decide +kernel, by decide +kernel⟩
theorem b4_due_holds_Task___init__ (F : Fc fbs fn K mg) : DBn K mg (fdOf K ("Task", some "__init__")) ["self", "name", "cost", "gap", "due", "holds"] 4 ["due", "holds"] g4_due_holds_Task___init__ := dbn_kw (fd_Task___init__ F) 4 _ [] _ _ (by simp [He.DefD.kws, d_Task___init__]) (by simp [He.DefD.kws, d_Task___init__, He.Dv.v]) (fun m H => by simp only [RDs, List.map_nil]) fun D doc pm an cdv ct us mv ws h1 h2 h3 => by
  obtain ⟨u0, u1, u2, u3, rfl⟩ := list_len4 h1
  obtain rfl := List.length_eq_zero_iff.mp h2
  obtain ⟨w0, w1, rfl⟩ := list_len2 h3
  exact rfl
theorem gl4_due_holds_Task___init__ (ds es : List D) (h1 : ds.length = 4) (h2 : es.length = 2) : (g4_due_holds_Task___init__ ds es).length = 6 := by
  obtain ⟨u0, u1, u2, u3, rfl⟩ := list_len4 h1
  obtain ⟨w0, w1, rfl⟩ := list_len2 h2
  rfl
theorem w_Task___init__ (F : Fc fbs fn K mg) : FnG P w K mg base 5 (He.fAd K ("Task", some "__init__")) (fdOf K ("Task", some "__init__")) ["self", "name", "cost", "gap", "due", "holds"] F_Task___init__ := fn_ok (fd_Task___init__ F) sc_Task___init__ fun cdv A outer s H E hr => by
  have nd : N_Task___init__.Nodup := sc_Task___init__.nd
  exact (rs_cons (rs_if (rt_not (rt_val (re_call (w_is_name F) (hr.mono (by decide)) (Nat.le_refl _) (by rfl) (F.glo 19) (fd_is_name F).kp (b1_is_name F) (by intro ds es h1 h2; exact gl1_is_name ds es h1 h2) (ra_cons (rv 1) ra_nil))))
  (rs_one (rs_raise1 (F.xc 21) (F.xi 20).1 (F.xi 20).2.1 (io_NoTask F) ((F.xi 20)).2.2 hr (by decide) (ib_NoTask F) rfl (by rfl) (F.glo 22) (ra_cons re_str ra_nil)))
  rs_nil)
  (rs_cons (rs_if (rt_not (rt_val (re_call (w_is_within F) (hr.mono (by decide)) (Nat.le_refl _) (by rfl) (F.glo 27) (fd_is_within F).kp (b3_is_within F) (by intro ds es h1 h2; exact gl3_is_within ds es h1 h2) (ra_cons (rv 2) (ra_cons re_int (ra_cons (re_glob (by rfl) (F.int 26) (fun _ _ => by simp only [RD])) ra_nil))))))
  (rs_one (rs_raise1 (F.xc 21) (F.xi 20).1 (F.xi 20).2.1 (io_NoTask F) ((F.xi 20)).2.2 hr (by decide) (ib_NoTask F) rfl (by rfl) (F.glo 22) (ra_cons re_str ra_nil)))
  rs_nil)
  (rs_cons (rs_if (rt_not (rt_val (re_call (w_is_within F) (hr.mono (by decide)) (Nat.le_refl _) (by rfl) (F.glo 27) (fd_is_within F).kp (b3_is_within F) (by intro ds es h1 h2; exact gl3_is_within ds es h1 h2) (ra_cons (rv 3) (ra_cons re_int (ra_cons (re_glob (by rfl) (F.int 28) (fun _ _ => by simp only [RD])) ra_nil))))))
  (rs_one (rs_raise1 (F.xc 21) (F.xi 20).1 (F.xi 20).2.1 (io_NoTask F) ((F.xi 20)).2.2 hr (by decide) (ib_NoTask F) rfl (by rfl) (F.glo 22) (ra_cons re_str ra_nil)))
  rs_nil)
  (rs_cons (rs_if (RW.rt (rw_and (rt_isNot (rv 4) re_non) (rw_and1 (rt_not (rt_val (re_call (w_is_within F) (hr.mono (by decide)) (Nat.le_refl _) (by rfl) (F.glo 27) (fd_is_within F).kp (b3_is_within F) (by intro ds es h1 h2; exact gl3_is_within ds es h1 h2) (ra_cons (rv 4) (ra_cons re_int (ra_cons (rv 3) ra_nil)))))))))
  (rs_one (rs_raise1 (F.xc 21) (F.xi 20).1 (F.xi 20).2.1 (io_NoTask F) ((F.xi 20)).2.2 hr (by decide) (ib_NoTask F) rfl (by rfl) (F.glo 22) (ra_cons re_str ra_nil)))
  rs_nil)
  (rs_cons (rs_if (rt_not (rt_val (re_call (w_are_holds F) (hr.mono (by decide)) (Nat.le_refl _) (by rfl) (F.glo 32) (fd_are_holds F).kp (b2_are_holds F) (by intro ds es h1 h2; exact gl2_are_holds ds es h1 h2) (ra_cons (rv 5) (ra_cons (rv 2) ra_nil)))))
  (rs_one (rs_raise1 (F.xc 21) (F.xi 20).1 (F.xi 20).2.1 (io_NoTask F) ((F.xi 20)).2.2 hr (by decide) (ib_NoTask F) rfl (by rfl) (F.glo 22) (ra_cons re_str ra_nil)))
  rs_nil)
  (rs_cons (rs_asgF rfl (re_tup (ra_cons (rv 1) (ra_cons (rv 2) (ra_cons (rv 3) ra_nil)))) (ths_cons (F.fld 35) (rv 0) (ths_cons (F.fld 34) (rv 0) (ths_cons (F.fld 33) (rv 0) ths_nil))))
  (rs_cons (rs_fld (F.fld 36) (re_ite (rt_is (rv 4) re_non) (rv 3) (rv 4)) (rv 0))
  (rs_cons (rs_fld (F.fld 37) (rv 5) (rv 0))
  (rs_one (rs_fld (F.fld 38) (re_tupRg1 rfl (by rfl) (F.free 10) (by rfl) (F.free 3) (rv 2)) (rv 0)))))))))))
theorem fd_check_within (F : Fc fbs fn K mg) : FunD K d_check_within.name d_check_within.qual d_check_within.params d_check_within.body d_check_within.scope (d_check_within.dvs K) (d_check_within.kws K) (He.fAd K ("check_within", none)) (fdOf K ("check_within", none)) := F.fun_ 12
theorem sc_check_within : FnScope N_check_within ["thing", "least", "most"] d_check_within.scope := ⟨by rfl, by rfl, by rfl, by decide, by rfl, by decide +kernel, by decide +kernel⟩
theorem b3_check_within (F : Fc fbs fn K mg) : DBn K mg (fdOf K ("check_within", none)) ["thing", "least", "most"] 3 [] g3_check_within := dbn_all ((fd_check_within F).bindsN fun kV doc pm an cdv ct us h => by
  obtain ⟨u0, u1, u2, rfl⟩ := list_len3 h
  rfl)
theorem gl3_check_within (ds es : List D) (h1 : ds.length = 3) (h2 : es.length = 0) : (g3_check_within ds es).length = 3 := h1
theorem w_check_within (F : Fc fbs fn K mg) : FnG P w K mg base 3 (He.fAd K ("check_within", none)) (fdOf K ("check_within", none)) ["thing", "least", "most"] F_check_within := fn_ok (fd_check_within F) sc_check_within fun cdv A outer s H E hr => by
  have nd : N_check_within.Nodup := sc_check_within.nd
  exact (rs_one (rs_if (rt_not (rt_val (re_call (w_is_within F) (hr.mono (by decide)) (Nat.le_refl _) (by rfl) (F.glo 27) (fd_is_within F).kp (b3_is_within F) (by intro ds es h1 h2; exact gl3_is_within ds es h1 h2) (ra_cons (rv 0) (ra_cons (rv 1) (ra_cons (rv 2) ra_nil))))))
  (rs_one (rs_raise1 (F.xc 43) (F.xi 42).1 (F.xi 42).2.1 (io_NoNumber F) ((F.xi 42)).2.2 hr (by decide) (ib_NoNumber F) rfl (by rfl) (F.glo 44) (ra_cons (rv 0) ra_nil)))
  rs_nil))
theorem fd_Task_held (F : Fc fbs fn K mg) : FunD K d_Task_held.name d_Task_held.qual d_Task_held.params d_Task_held.body d_Task_held.scope (d_Task_held.dvs K) (d_Task_held.kws K) (He.fAd K ("Task", some "held")) (fdOf K ("Task", some "held")) := F.fun_ 13
theorem sc_Task_held : FnScope N_Task_held ["self", "done"] d_Task_held.scope := ⟨by rfl, by rfl, by rfl, by decide, by rfl, by decide +kernel, by decide +kernel⟩
theorem b1_done_Task_held (F : Fc fbs fn K mg) : DBn K mg (fdOf K ("Task", some "held")) ["self", "done"] 1 ["done"] g1_done_Task_held := dbn_nm (fd_Task_held F) 1 _ _ fun kV doc pm an cdv ct us ws h1 h2 => by
  obtain ⟨u0, rfl⟩ := list_len1 h1
  obtain ⟨w0, rfl⟩ := list_len1 h2
  rfl
theorem gl1_done_Task_held (ds es : List D) (h1 : ds.length = 1) (h2 : es.length = 1) : (g1_done_Task_held ds es).length = 2 := by
  obtain ⟨u0, rfl⟩ := list_len1 h1
  obtain ⟨w0, rfl⟩ := list_len1 h2
  rfl
theorem b2_Task_held (F : Fc fbs fn K mg) : DBn K mg (fdOf K ("Task", some "held")) ["self", "done"] 2 [] g2_Task_held := dbn_all ((fd_Task_held F).bindsN fun kV doc pm an cdv ct us h => by
  obtain ⟨u0, u1, rfl⟩ := list_len2 h
  rfl)
theorem gl2_Task_held (ds es : List D) (h1 : ds.length = 2) (h2 : es.length = 0) : (g2_Task_held ds es).length = 2 := h1
theorem w_Task_held (F : Fc fbs fn K mg) : FnG P w K mg base 4 (He.fAd K ("Task", some "held")) (fdOf K ("Task", some "held")) ["self", "done"] F_Task_held := fn_ok (fd_Task_held F) sc_Task_held fun cdv A outer s H E hr => by
  have nd : N_Task_held.Nodup := sc_Task_held.nd
  exact (rs_cons (rs_expr (re_call (w_check_within F) (hr.mono (by decide)) (Nat.le_refl _) (by rfl) (F.glo 45) (fd_check_within F).kp (b3_check_within F) (by intro ds es h1 h2; exact gl3_check_within ds es h1 h2) (ra_cons (rv 1) (ra_cons re_int (ra_cons (re_fld (F.fld 34) (rv 0)) ra_nil)))))
  (rs_one (rs_ret (rb_tuple (by rfl) (F.free 10) (ra_cons (re_sortSc (own := [("tool", 2), ("begin", 3), ("long", 4)]) rfl nd (by rfl) (F.free 9) (ri_sq (re_fld (F.fld 37) (rv 0))) (blkOk_by (own := [("tool", 2), ("begin", 3), ("long", 4)]) (N := N_Task_held) (sc := (defScope (inClass (top 18) 5))) (by decide +kernel)) (fun _ _ _ _ _ => (pg_tupL rfl (pgs_cons (pg_name (i := 2) nd (by rfl) (by first | exact Or.inl rfl | exact Or.inr rfl)) (pgs_cons (pg_name (i := 3) nd (by rfl) (by first | exact Or.inl rfl | exact Or.inr rfl)) (pgs_cons (pg_name (i := 4) nd (by rfl) (by first | exact Or.inl rfl | exact Or.inr rfl)) pgs_nil))))) (tg_tup (tg_cons (tg_name 2) (tg_cons (tg_name 3) (tg_cons (tg_name 4) tg_nil)))) (by decide) (fun _ _ _ _ _ => (rts_one (rt_chain (op_lt.or op_lt_str) (op_lt.or op_lt_str) g_ord g_ord (rv 3) (rv 1) (re_add (rv 3) (rv 4))))) (fun _ _ _ _ _ => (rv 2))) ra_nil)))))
theorem fd__law_due_at (F : Fc fbs fn K mg) : FunD K d__law_due_at.name d__law_due_at.qual d__law_due_at.params d__law_due_at.body d__law_due_at.scope (d__law_due_at.dvs K) (d__law_due_at.kws K) (He.fAd K ("_law_due_at", none)) (fdOf K ("_law_due_at", none)) := F.fun_ 14
theorem sc__law_due_at : FnScope N__law_due_at ["_law_grips", "_law_stage"] d__law_due_at.scope := ⟨by rfl, by rfl, by rfl, by decide, by rfl, by decide +kernel, by decide +kernel⟩
theorem b2__law_due_at (F : Fc fbs fn K mg) : DBn K mg (fdOf K ("_law_due_at", none)) ["_law_grips", "_law_stage"] 2 [] g2__law_due_at := dbn_all ((fd__law_due_at F).bindsN fun kV doc pm an cdv ct us h => by
  obtain ⟨u0, u1, rfl⟩ := list_len2 h
  rfl)
theorem gl2__law_due_at (ds es : List D) (h1 : ds.length = 2) (h2 : es.length = 0) : (g2__law_due_at ds es).length = 2 := h1
theorem w__law_due_at (F : Fc fbs fn K mg) : FnG P w K mg base 1 (He.fAd K ("_law_due_at", none)) (fdOf K ("_law_due_at", none)) ["_law_grips", "_law_stage"] F__law_due_at := fn_ok (fd__law_due_at F) sc__law_due_at fun cdv A outer s H E hr => by
  have nd : N__law_due_at.Nodup := sc__law_due_at.nd
  exact (rs_cons (rs_set (i := 2) nd (by rfl) (by first | exact Or.inl rfl | exact Or.inr rfl) (re_lstR ra_nil))
  (rs_cons (rs_for (passes_of rfl) rfl (ri_sq (rv 0)) (pg_tupL rfl (pgs_cons (pg_name (i := 3) nd (by rfl) (by first | exact Or.inl rfl | exact Or.inr rfl)) (pgs_cons (pg_name (i := 4) nd (by rfl) (by first | exact Or.inl rfl | exact Or.inr rfl)) (pgs_cons (pg_name (i := 5) nd (by rfl) (by first | exact Or.inl rfl | exact Or.inr rfl)) pgs_nil)))) (tg_tup (tg_cons (tg_name 3) (tg_cons (tg_name 4) (tg_cons (tg_name 5) tg_nil))))
  (rs_one (rs_if (RW.rt (rw_and (rt_in hr.rm (rv 1) (re_lstRg2 rfl (by rfl) (F.free 41) (by rfl) (F.free 3) (re_add (rv 4) re_int) (re_add (rv 4) (rv 5)))) (rw_and1 (rt_notIn hr.rm (rv 3) (rv 2)))))
  (rs_one (rs_expr (rm_append (rv 2) (ra_cons (rv 3) ra_nil))))
  rs_nil)))
  (rs_one (rs_ret (rb_tuple (by rfl) (F.free 10) (ra_cons (rb_sorted (by rfl) (F.free 9) (ra_cons (rv 2) ra_nil)) ra_nil))))))
theorem fd_Task___repr__ (F : Fc fbs fn K mg) : FunD K d_Task___repr__.name d_Task___repr__.qual d_Task___repr__.params d_Task___repr__.body d_Task___repr__.scope (d_Task___repr__.dvs K) (d_Task___repr__.kws K) (He.fAd K ("Task", some "__repr__")) (fdOf K ("Task", some "__repr__")) := F.fun_ 15
theorem sc_Task___repr__ : FnScope N_Task___repr__ ["self"] d_Task___repr__.scope := ⟨by rfl, by rfl, by rfl, by decide, by rfl, by decide +kernel, by decide +kernel⟩
theorem b1_Task___repr__ (F : Fc fbs fn K mg) : DBn K mg (fdOf K ("Task", some "__repr__")) ["self"] 1 [] g1_Task___repr__ := dbn_all ((fd_Task___repr__ F).bindsN fun kV doc pm an cdv ct us h => by
  obtain ⟨u0, rfl⟩ := list_len1 h
  rfl)
theorem gl1_Task___repr__ (ds es : List D) (h1 : ds.length = 1) (h2 : es.length = 0) : (g1_Task___repr__ ds es).length = 1 := h1
theorem wX_Task___repr__ {gb : Prop} (F : Fc fbs fn K mg) : FnXB gb P w K mg base 1 (He.fAd K ("Task", some "__repr__")) (fdOf K ("Task", some "__repr__")) ["self"] FX_Task___repr__ := fn_okX (fd_Task___repr__ F) sc_Task___repr__ fun cdv A outer s H E p xi hr hot => by
  have nd : N_Task___repr__.Nodup := sc_Task___repr__.nd
  have hp : PinX (cxX P w K mg base N_Task___repr__ d_Task___repr__.qual d_Task___repr__.scope (He.fAd K ("Task", some "__repr__")) cdv A outer s H E p) xi := pinX_def hot
  exact (rs_one (rs_ret (re_fs (RJ.cons re_str (RJ.cons (re_fmt (re_fld (F.fld 56) (rv 0))) (RJ.cons re_str RJ.nil))))))
theorem o_reprX (F : Fc fbs fn K mg) {X : Cx} {xi : XI} (h1 : X.prog = P := by rfl) (h2 : X.w = w := by rfl) (h3 : X.K = K := by rfl) (h4 : X.mg = mg := by rfl) (h5 : X.base = base := by rfl) : OwnRXT X xi 1 (T_reprX xi) := by
  subst h1 h2 h3 h4 h5
  intro p hp
  simp only [T_reprX, List.mem_cons, List.not_mem_nil, or_false] at hp
  rcases hp with rfl
  · exact ⟨_, _, _, N_Task___repr__.take 1, FX_Task___repr__, rfl, (F.glo 40), (F.meth 60).at_, (F.meth 60).fn, (wX_Task___repr__ (gb := False) F).mono (by decide), b1_Task___repr__ F, rfl⟩
theorem fd__law_refused (F : Fc fbs fn K mg) : FunD K d__law_refused.name d__law_refused.qual d__law_refused.params d__law_refused.body d__law_refused.scope (d__law_refused.dvs K) (d__law_refused.kws K) (He.fAd K ("_law_refused", none)) (fdOf K ("_law_refused", none)) := F.fun_ 16
theorem sc__law_refused : FnScope N__law_refused ["_law_task", "_law_thing", "_law_by_name"] d__law_refused.scope := ⟨by rfl, by rfl, by rfl, by decide, by rfl, by decide +kernel, by decide +kernel⟩
theorem b3__law_refused (F : Fc fbs fn K mg) : DBn K mg (fdOf K ("_law_refused", none)) ["_law_task", "_law_thing", "_law_by_name"] 3 [] g3__law_refused := dbn_all ((fd__law_refused F).bindsN fun kV doc pm an cdv ct us h => by
  obtain ⟨u0, u1, u2, rfl⟩ := list_len3 h
  rfl)
theorem gl3__law_refused (ds es : List D) (h1 : ds.length = 3) (h2 : es.length = 0) : (g3__law_refused ds es).length = 3 := h1
theorem w__law_refused (F : Fc fbs fn K mg) : FnG P w K mg base 14 (He.fAd K ("_law_refused", none)) (fdOf K ("_law_refused", none)) ["_law_task", "_law_thing", "_law_by_name"] F__law_refused := fn_ok (fd__law_refused F) sc__law_refused fun cdv A outer s H E hr => by
  have nd : N__law_refused.Nodup := sc__law_refused.nd
  exact (rs_cons (rs_try (anc := anc) rfl rfl (fun pn xe po => (rs_one (rs_if (rt_val (rv 2))
  (rs_one (rs_expr (re_methK (rv 0) (F.glo 40) (F.cls 46) (F.meth 47) (w_Task_held F) (hr.mono (by decide)) (Nat.le_refl _) (b1_done_Task_held F) (by intro ds es h1 h2; exact gl1_done_Task_held ds es h1 h2) (rk_cons (rv 1) rk_nil))))
  (rs_one (rs_expr (re_meth (rv 0) (F.glo 40) (F.cls 46) (F.meth 47) (w_Task_held F) (hr.mono (by decide)) (Nat.le_refl _) (b2_Task_held F) (by intro ds es h1 h2; exact gl2_Task_held ds es h1 h2) (ra_cons (rv 1) ra_nil)))))))
  (HdR.as (i := 3) nd (by rfl) (by rfl) (ht_two ⟨by rfl, by decide, .inl (F.glo 49)⟩ ⟨by rfl, by decide, .inl (F.glo 50)⟩) (F.exm 51) (fun a oe cls d pn hz hf => suite_in hr hz hf fun hr hp => (rs_cons (rs_if (RW.rt (rw_or (rt_val (re_isXt (i := 3) hp (show IsmF K mg anc ["NoTask", "LostError"] [.ref (He.ga K "NoTask"), .ref (He.ga K "LostError")] from F.ism 52) (pe_var (by rfl) (by first | exact Or.inl rfl | exact Or.inr (Or.inl rfl))) (pac_cons (pgo (by rfl) (F.glo 22)) (pac_cons (pgo (by rfl) (F.glo 50)) pac_nil)) (.cons (.own _) (.cons (.own _) .nil)) (Nat.le_of_ble_eq_true rfl) (by rfl) (F.free 15))) (rw_or (rt_not (rt_val (re_isX1 (i := 3) hp (show IsmF K mg anc ["NoNumber"] [.ref (He.ga K "NoNumber")] from F.ism 53) (pe_var (by rfl) (by first | exact Or.inl rfl | exact Or.inr (Or.inl rfl))) (pgo (by rfl) (F.glo 44)) (.own _) (by rfl) (F.free 15)))) (rw_or1 (rt_not (rt_val (re_isX1 (i := 3) hp (show IsmF K mg anc ["ValueError"] [.type "ValueError"] from F.ism 54) (pe_var (by rfl) (by first | exact Or.inl rfl | exact Or.inr (Or.inl rfl))) (pgb (n := "ValueError") (by rfl) (F.free 55) (by decide +kernel)) (.ty _) (by rfl) (F.free 15))))))))
  (rs_one (rs_ret re_bl))
  rs_nil)
  (rs_one (rs_ret (re_eq hr.rm (rb_reprX (o_reprX F) hp (hr.mono (by decide)) (by rfl) (F.free 58) (ra_cons (re_fldX (i := 3) hp (F.xf 57) (pe_var (by rfl) (by first | exact Or.inl rfl | exact Or.inr (Or.inl rfl)))) ra_nil)) (rb_reprX (o_reprX F) hp (hr.mono (by decide)) (by rfl) (F.free 58) (ra_cons (rv 1) ra_nil))))))) HdR.nil))
  (rs_one (rs_ret re_bl)))
theorem fd_law (F : Fc fbs fn K mg) : FunD K d_law.name d_law.qual d_law.params d_law.body d_law.scope (d_law.dvs K) (d_law.kws K) (He.fAd K ("law", none)) (fdOf K ("law", none)) := F.fun_ 17
theorem sc_law : FnScope N_law ["_law_script"] d_law.scope := ⟨by rfl, by rfl, by rfl, by decide, by rfl, by decide +kernel, by decide +kernel⟩
theorem w_law (F : Fc fbs fn K mg) : FnG P w K mg base 15 (He.fAd K ("law", none)) (fdOf K ("law", none)) ["_law_script"] F_law := fn_ok (fd_law F) sc_law fun cdv A outer s H E hr => by
  have nd : N_law.Nodup := sc_law.nd
  exact (rs_cons (rs_for (passes_of rfl) rfl (ri_rg1 (by rfl) (F.free 3) (rb_max rfl (by rfl) (F.free 2) (ra_cons re_int (ra_cons (rb_min rfl (by rfl) (F.free 1) (ra_cons re_int (ra_cons (rb_len (by rfl) (F.free 0) (ra_cons (rv 0) ra_nil)) ra_nil))) ra_nil)))) (pg_name (i := 1) nd (by rfl) (by first | exact Or.inl rfl | exact Or.inr rfl)) (tg_name 1)
  (rs_cons (rs_set (i := 2) nd (by rfl) (by first | exact Or.inl rfl | exact Or.inr rfl) (re_call (w__law_purse F) (hr.mono (by decide)) (Nat.le_refl _) (by rfl) (F.glo 6) (fd__law_purse F).kp (b1__law_purse F) (by intro ds es h1 h2; exact gl1__law_purse ds es h1 h2) (ra_cons (re_call (w__law_cell F) (hr.mono (by decide)) (Nat.le_refl _) (by rfl) (F.glo 5) (fd__law_cell F).kp (b2__law_cell F) (by intro ds es h1 h2; exact gl2__law_cell ds es h1 h2) (ra_cons (rv 0) (ra_cons (rv 1) ra_nil))) ra_nil)))
  (rs_cons (rs_asg (re_call (w__law_drawn F) (hr.mono (by decide)) (Nat.le_refl _) (by rfl) (F.glo 12) (fd__law_drawn F).kp (b1__law_drawn F) (by intro ds es h1 h2; exact gl1__law_drawn ds es h1 h2) (ra_cons (rv 2) ra_nil)) (pg_tupL rfl (pgs_cons (pg_name (i := 3) nd (by rfl) (by first | exact Or.inl rfl | exact Or.inr rfl)) (pgs_cons (pg_name (i := 4) nd (by rfl) (by first | exact Or.inl rfl | exact Or.inr rfl)) (pgs_cons (pg_name (i := 5) nd (by rfl) (by first | exact Or.inl rfl | exact Or.inr rfl)) (pgs_cons (pg_name (i := 6) nd (by rfl) (by first | exact Or.inl rfl | exact Or.inr rfl)) (pgs_cons (pg_name (i := 7) nd (by rfl) (by first | exact Or.inl rfl | exact Or.inr rfl)) pgs_nil)))))) (tg_tup (tg_cons (tg_name 3) (tg_cons (tg_name 4) (tg_cons (tg_name 5) (tg_cons (tg_name 6) (tg_cons (tg_name 7) tg_nil)))))))
  (rs_cons (rs_set (i := 8) nd (by rfl) (by first | exact Or.inl rfl | exact Or.inr rfl) (re_trim (re_makeK (F.mkr 39) (w_Task___init__ F) (hr.mono (by decide)) (Nat.le_refl _) (by rfl) (F.glo 40) (b4_due_holds_Task___init__ F) (by intro ds es h1 h2; exact gl4_due_holds_Task___init__ ds es h1 h2) (ra_cons (rv 3) (ra_cons (rv 4) (ra_cons (rv 5) ra_nil))) (rk_cons (rv 6) (rk_cons (rv 7) rk_nil)))))
  (rs_cons (rs_for (passes_of rfl) rfl (ri_sq (re_add (re_trim (re_lstRg1 rfl (by rfl) (F.free 41) (by rfl) (F.free 3) (re_add (rv 4) re_int))) (re_lst (ra_cons (re_call (w__law_take F) (hr.mono (by decide)) (Nat.le_refl _) (by rfl) (F.glo 7) (fd__law_take F).kp (b2__law_take F) (by intro ds es h1 h2; exact gl2__law_take ds es h1 h2) (ra_cons (rv 2) (ra_cons (re_add (rv 4) re_int) ra_nil))) (ra_cons re_int (ra_cons (rv 4) ra_nil)))))) (pg_name (i := 9) nd (by rfl) (by first | exact Or.inl rfl | exact Or.inr rfl)) (tg_name 9)
  (rs_cons (rs_par (i := 10) (j := 11) rfl nd (by rfl) (by rfl) (by decide) (by rfl) (by rfl) (ra_cons (re_meth (rv 8) (F.glo 40) (F.cls 46) (F.meth 47) (w_Task_held F) (hr.mono (by decide)) (Nat.le_refl _) (b2_Task_held F) (by intro ds es h1 h2; exact gl2_Task_held ds es h1 h2) (ra_cons (rv 9) ra_nil)) (ra_cons (re_methK (rv 8) (F.glo 40) (F.cls 46) (F.meth 47) (w_Task_held F) (hr.mono (by decide)) (Nat.le_refl _) (b1_done_Task_held F) (by intro ds es h1 h2; exact gl1_done_Task_held ds es h1 h2) (rk_cons (rv 9) rk_nil)) ra_nil)) (by rfl))
  (rs_one (rs_if (RW.rt (rw_or (rt_not (rt_val (re_isi (F.isf 13) (by rfl) (F.free 15) (rv 10) (pcl_b (by rfl) (F.free 10) (by decide +kernel) (by decide))))) (rw_or (rt_ne hr.rm (rv 10) (re_call (w__law_due_at F) (hr.mono (by decide)) (Nat.le_refl _) (by rfl) (F.glo 48) (fd__law_due_at F).kp (b2__law_due_at F) (by intro ds es h1 h2; exact gl2__law_due_at ds es h1 h2) (ra_cons (rv 7) (ra_cons (rv 9) ra_nil)))) (rw_or1 (rt_ne hr.rm (rv 11) (rv 10))))))
  (rs_one (rs_ret re_bl))
  rs_nil))))
  (rs_cons (rs_set (i := 12) nd (by rfl) (by first | exact Or.inl rfl | exact Or.inr rfl) (re_lst (ra_cons (re_sub re_int re_int) (ra_cons (re_add (rv 4) re_int) (ra_cons (re_pow re_int re_int) (ra_cons (re_sub re_int (re_pow re_int re_int)) (ra_cons re_bl (ra_cons re_bl (ra_cons re_non (ra_cons re_str (ra_cons re_str (ra_cons (re_tup ra_nil) (ra_cons (re_tup (ra_cons re_int ra_nil)) (ra_cons (re_lst ra_nil) (ra_cons (re_lst (ra_cons re_int ra_nil)) (ra_cons re_dct0 (ra_cons (re_tup (ra_cons (re_lst ra_nil) ra_nil)) (ra_cons (rv 8) ra_nil))))))))))))))))))
  (rs_cons (rs_set (i := 13) nd (by rfl) (by first | exact Or.inl rfl | exact Or.inr rfl) (re_call (w__law_take F) (hr.mono (by decide)) (Nat.le_refl _) (by rfl) (F.glo 7) (fd__law_take F).kp (b2__law_take F) (by intro ds es h1 h2; exact gl2__law_take ds es h1 h2) (ra_cons (rv 2) (ra_cons re_int ra_nil))))
  (rs_cons (rs_for (passes_of rfl) rfl (ri_sq (re_lst (ra_cons (re_ix hr.rm (rv 12) (rv 13)) (ra_cons re_bl (ra_cons re_bl (ra_cons (re_add (rv 4) re_int) ra_nil)))))) (pg_name (i := 14) nd (by rfl) (by first | exact Or.inl rfl | exact Or.inr rfl)) (tg_name 14)
  (rs_one (rs_if (rt_not (rt_val (re_call (w__law_refused F) (hr.mono (by decide)) (Nat.le_refl _) (by rfl) (F.glo 59) (fd__law_refused F).kp (b3__law_refused F) (by intro ds es h1 h2; exact gl3__law_refused ds es h1 h2) (ra_cons (rv 8) (ra_cons (rv 14) (ra_cons (re_eq hr.rm (re_call (w__law_take F) (hr.mono (by decide)) (Nat.le_refl _) (by rfl) (F.glo 7) (fd__law_take F).kp (b2__law_take F) (by intro ds es h1 h2; exact gl2__law_take ds es h1 h2) (ra_cons (rv 2) (ra_cons re_int ra_nil))) re_int) ra_nil))))))
  (rs_one (rs_ret re_bl))
  rs_nil)))
  (rs_one (rs_if (RW.rt (rw_or (rt_ne hr.rm (re_meth (rv 8) (F.glo 40) (F.cls 46) (F.meth 47) (w_Task_held F) (hr.mono (by decide)) (Nat.le_refl _) (b2_Task_held F) (by intro ds es h1 h2; exact gl2_Task_held ds es h1 h2) (ra_cons re_int ra_nil)) (re_tup ra_nil)) (rw_or1 (rt_ne hr.rm (re_meth (rv 8) (F.glo 40) (F.cls 46) (F.meth 47) (w_Task_held F) (hr.mono (by decide)) (Nat.le_refl _) (b2_Task_held F) (by intro ds es h1 h2; exact gl2_Task_held ds es h1 h2) (ra_cons (rv 4) ra_nil)) (re_tup ra_nil)))))
  (rs_one (rs_ret re_bl))
  rs_nil))))))))))
  (rs_one (rs_ret re_bl)))
end
end Law_k03

set_option maxHeartbeats 1000000
namespace Law_k03
open PySem PySem.Spec PyProof.Rows L2 G
local macro_rules
  | `(tactic| done) => `(tactic| first
    | with_reducible refine w_seq ?_
    | with_reducible refine w_raise ?_
    | with_reducible refine w_try ?_
    | with_reducible refine w_set ?_
    | with_reducible refine w_if ?_
    | with_reducible refine w_ret ?_
    | with_reducible refine w_drop ?_
    | with_reducible refine w_put ?_
    | with_reducible refine w_asg ?_
    | with_reducible refine w_next ?_
    | with_reducible refine w_par ?_
    | with_reducible refine w_par3 ?_
    | with_reducible refine parE ?_
    | with_reducible refine parE3 ?_
    | with_reducible refine w_bin ?_
    | ((with_reducible refine' w_var ?_ ?_); rotate_left; rfl)
    | with_reducible refine w_c ?_
    | with_reducible refine w_acons ?_
    | with_reducible refine w_anil ?_
    | with_reducible refine w_callB ?_
    | with_reducible refine w_call ?_
    | with_reducible refine w_tup ?_
    | with_reducible refine w_lst ?_
    | with_reducible refine w_lstR ?_
    | with_reducible refine w_TB ?_
    | with_reducible refine w_not ?_
    | with_reducible refine w_and ?_
    | with_reducible refine w_or ?_
    | with_reducible refine w_yes ?_
    | with_reducible refine w_sl ?_
    | with_reducible refine w_part ?_
    | with_reducible refine w_noPart ?_
    | with_reducible refine w_isi ?_
    | with_reducible refine w_tru ?_
    | with_reducible refine w_andV ?_
    | with_reducible refine w_notV ?_
    | with_reducible refine w_ite ?_
    | with_reducible refine w_chain ?_
    | with_reducible refine w_fld ?_
    | with_reducible refine w_rg1 ?_
    | with_reducible refine w_rg2 ?_
    | with_reducible refine w_dctR ?_
    | with_reducible refine w_dget2 ?_
    | with_reducible refine w_sortSet ?_
    | with_reducible refine w_lstRg2 ?_
    | with_reducible refine w_sq ?_
    | with_reducible refine w_bm ?_
    | with_reducible refine p_add ?_
    | with_reducible refine p_sub ?_
    | with_reducible refine p_eqI ?_
    | with_reducible refine p_neI ?_
    | with_reducible refine p_lt ?_
    | with_reducible refine p_le ?_
    | with_reducible refine p_gt ?_
    | with_reducible refine p_ge ?_
    | with_reducible refine p_max2 ?_
    | with_reducible refine p_min2 ?_
    | with_reducible refine p_intB ?_
    | with_reducible refine p_addI ?_
    | with_reducible refine p_subI ?_
    | ((with_reducible refine' fldE ?_ ?_ ?_ ?_); rotate_left; rotate_left; rotate_left; rfl; simp; rfl)
    | with_reducible refine p_isntB ?_
    | with_reducible refine and_tt ?_
    | with_reducible refine and_ff ?_
    | with_reducible refine and_nt ?_
    | with_reducible refine and_nf ?_
    | with_reducible refine p_lenScr ?_
    | with_reducible refine p_lenL ?_
    | with_reducible refine p_lenT ?_
    | ((with_reducible refine' isiT ?_ ?_ ?_ ?_); rotate_left; rfl; decide; decide)
    | ((with_reducible refine' isiF ?_ ?_ ?_ ?_); rotate_left; rfl; decide; decide)
    | with_reducible refine ⟨_, rfl, ?_⟩
    | with_reducible refine ⟨⟨rfl, rfl⟩, ?_⟩
    | ((with_reducible refine ble_and ?_ ?_); rfl)
    | ((with_reducible refine p_mod ?_ ?_); omega)
    | ((with_reducible refine p_mul ?_ ?_); (unfold CMul; omega))
    | ((with_reducible refine p_div ?_ ?_); (unfold CDiv; omega)))
/-- a value of a type that isinstance knows -/
def tyOk (cs : List Str) (d : D) (h : Hs) : Bool := match tyD d h with
  | some t => okTy cs t
  | none => false
def tyB (n : String) (d : D) (h : Hs) : Bool := match tyD d h with
  | some t => subT t (.b n)
  | none => false
theorem isi_b {cs : List Str} {d : D} {h : Hs} {n : String} {A B : Prop} (t : tyOk cs d h = true) (b : Bool) (e : tyB n d h = b) (q1 : b = true → A) (q2 : b = false → B) :
    ∃ t, tyD d h = some t ∧ okTy cs t = true ∧ ((([Ty.b n].any (subT t)) = true ∧ A) ∨ (([Ty.b n].any (subT t)) = false ∧ B)) := by
  unfold tyOk at t
  unfold tyB at e
  cases k : tyD d h with
  | none => rw [k] at t; cases t
  | some s =>
    rw [k] at t e
    refine ⟨s, rfl, t, ?_⟩
    subst e
    simp only [List.any_cons, List.any_nil, Bool.or_false]
    cases z : subT s (.b n) with
    | true => exact .inl ⟨rfl, q1 z⟩
    | false => exact .inr ⟨rfl, q2 z⟩
theorem isi_no {cs : List Str} {d : D} {h : Hs} {n : String} {A B : Prop} (t : tyOk cs d h = true) (e : tyB n d h = false) (q : B) :
    ∃ t, tyD d h = some t ∧ okTy cs t = true ∧ ((([Ty.b n].any (subT t)) = true ∧ A) ∨ (([Ty.b n].any (subT t)) = false ∧ B)) := isi_b t false e (fun z => nomatch z) fun _ => q
def isStr : D → Bool
  | .str _ => true
  | _ => false
/-- .. wherever it stands -/
def tyP (cs : List Str) : D → Bool
  | .ins c _ => okTy cs (.o c)
  | .ref _ => false
  | .exn _ _ _ => false
  | _ => true
theorem tyP_ok {cs : List Str} {d : D} {h : Hs} (t : tyP cs d = true) : tyOk cs d h = true := by
  cases d with
  | ref n => cases t
  | exn x c fs => cases t
  | ins c fs => exact t
  | _ => rfl
/-- what may be handed in -/
def ArgP (d : D) : Prop := tyP CS d = true ∧ ∀ x, d = .str x → x.length ≤ 1000
theorem argS {x : Str} (l : x.length ≤ 1000) : ArgP (.str x) := ⟨rfl, fun y e => by injection e with e; subst e; exact l⟩
theorem argI {d : D} (t : tyP CS d = true) (s : isStr d = false) : ArgP d := ⟨t, fun y e => by subst e; cases s⟩
def isTup : D → Bool
  | .tup _ => true
  | _ => false
theorem tyB_str (d : D) (h : Hs) : tyB "str" d h = isStr d := by
  unfold tyB
  cases d with
  | ref n =>
    unfold tyD isStr
    dsimp only
    split
    · rename_i t e
      split at e <;> cases e <;> rfl
    · rfl
  | _ => rfl
theorem tyB_tup (d : D) (h : Hs) : tyB "tuple" d h = isTup d := by
  unfold tyB
  cases d with
  | ref n =>
    unfold tyD isTup
    dsimp only
    split
    · rename_i t e
      split at e <;> cases e <;> rfl
    · rfl
  | _ => rfl
theorem bls_all : ∀ {ds ys : List D}, Al (fun _ y => y = .bl true) ds ys → blsD ys = some (ys.map fun _ => true)
  | _, _, .nil => rfl
  | _, _, .cons p r => by
    subst p
    simp [blsD, bls_all r]
theorem p_ixI {ds : List D} {i : Int} {d : D} {h : Hs} {E : D → Hs → Prop} {Q : D → Hs → Prop} (h0 : 0 ≤ i) (e : ds[i.toNat]? = some d) (q : Q d h) : (gIx (.lst ds) (.int i) h).xp E Q := by
  obtain ⟨k, rfl⟩ := Int.eq_ofNat_of_zero_le h0
  exact p_ixL (by simpa using e) q
theorem al_map {α : Type} {P : D → D → Prop} {g f : α → D} (k : ∀ a y, P (g a) y → y = f a) : ∀ (l : List α) {ys : List D}, Al P (l.map g) ys → ys = l.map f
  | [], _, .nil => rfl
  | a :: l, _, .cons p r => by rw [List.map_cons, ← k a _ p, ← al_map k l r]
theorem al_rng {f : Nat → D} {m : Int} {ys : List D} (h : Al (fun d y => ∃ i : Nat, d = .int i ∧ y = f i) (rngD 0 m) ys) : ys = (List.range m.toNat).map f := by
  have e : rngD 0 m = (List.range m.toNat).map fun i : Nat => D.int (i : Nat) := by simp [rngD]
  rw [e] at h
  exact al_map (fun a y ⟨i, e1, e2⟩ => by
    injection e1 with e1
    have : a = i := by omega
    subst this; exact e2) _ h
theorem al_ex {α : Type} {L : α → Prop} {f : α → D} : ∀ {ds ys : List D}, Al (fun _ y => ∃ c, L c ∧ y = f c) ds ys → ∃ cs : List α, ys = cs.map f ∧ (∀ c ∈ cs, L c) ∧ cs.length = ds.length
  | _, _, .nil => ⟨[], rfl, by simp, rfl⟩
  | _, _, .cons ⟨c, hc, e⟩ r => by
    obtain ⟨cs, e1, e2, e3⟩ := al_ex r
    exact ⟨c :: cs, by rw [e, e1]; rfl, fun x hx => by
      rcases List.mem_cons.mp hx with rfl | hx
      · exact hc
      · exact e2 x hx, by simp [e3]⟩
theorem rng_mem {m : Int} {d : D} (h : d ∈ rngD 0 m) : ∃ i : Nat, d = .int i ∧ (i : Int) < m := by
  simp only [rngD, List.mem_map, List.mem_range] at h
  obtain ⟨i, hi, rfl⟩ := h
  exact ⟨i, by simp, by omega⟩
theorem rng_len {m : Int} : (rngD 0 m).length = m.toNat := by simp [rngD]
theorem p_addS {x y : Str} {h : Hs} {E : D → Hs → Prop} {Q : D → Hs → Prop} (n : x.length + y.length ≤ 1000) (q : Q (.str (x ++ y)) h) : (gAdd (.str x) (.str y) h).xp E Q := by
  show R.xp (if x.length + y.length ≤ sizeLine then _ else _) E Q
  rw [if_pos (by rw [sizeLine_eq]; omega)]
  exact q
theorem p_slS {z : Str} {lo hi : Option Int} {h : Hs} {E : D → Hs → Prop} {Q : D → Hs → Prop} (n : z.length ≤ 1000) (q : Q (.str (cutS z lo hi)) h) : (gSl (.str z) lo hi h).xp E Q := by
  show R.xp (if z.length ≤ sizeLine then _ else _) E Q
  rw [if_pos (by rw [sizeLine_eq]; omega)]
  exact q
theorem get_last {g : Hs} {x : OB} {L : Nat} (l : g.length = L) : (g ++ [x])[L]? = some x := by subst l; simp
theorem set_last {g : Hs} {x y : OB} {L : Nat} (l : g.length = L) : (g ++ [x]).set L y = g ++ [y] := by subst l; simp
theorem p_app {k : Nat} {acc : List D} {d : D} {H : Hs} {E : D → Hs → Prop} {Q : D → Hs → Prop} (o : H[k]? = some (.lst acc)) (l : acc.length ≤ 1000) (q : Q .non (H.set k (.lst (acc ++ [d])))) : (gAppend (.ref k) [d] H).xp E Q := by
  have e : mutL (.ref k) H = some (k, acc) := by unfold mutL; simp only [o]
  show R.xp (match mutL (.ref k) H with | some (n, ds) => (if ds.length < sizeLine then R.ok D.non (H.set n (.lst (ds ++ [d]))) else .no) | none => .no) E Q
  rw [e]
  dsimp only
  rw [if_pos (by rw [sizeLine_eq]; omega)]
  exact q
theorem isL {k : Nat} {acc : List D} {H : Hs} (o : H[k]? = some (.lst acc)) : isTy "list" (.ref k) H = true := by
  unfold isTy asSqL asLst
  simp [o]
theorem strs_map : ∀ xs : List Str, strsD (xs.map D.str) = some xs
  | [] => rfl
  | x :: xs => by simp [strsD, strs_map xs]
theorem p_sorted {xs : List Str} {h : Hs} {E : D → Hs → Prop} {Q : D → Hs → Prop} (l : xs.length < 64) (q : Q (.lst ((sortS xs).map .str)) h) : (gSorted [.lst (xs.map D.str)] h).xp E Q := by
  show R.xp (match strsD (xs.map D.str) with | some xs => (if xs.length < 64 then R.ok (D.lst ((sortS xs).map .str)) h else .no) | none => .no) E Q
  rw [strs_map]
  dsimp only
  rw [if_pos l]
  exact q
theorem p_tupR {k : Nat} {acc : List D} {H : Hs} {E : D → Hs → Prop} {Q : D → Hs → Prop} (o : H[k]? = some (.lst acc)) (q : Q (.tup acc) H) : (gTupleOf [.ref k] H).xp E Q := by
  have e : asSqL (.ref k) H = some acc := by unfold asSqL asLst; simp only [o]
  show R.xp (match asSqL (.ref k) H with | some ds => R.ok (D.tup ds) H | none => .no) E Q
  rw [e]
  exact q
theorem p_isNN {h : Hs} {E : D → Hs → Prop} {Q : D → Hs → Prop} (q : Q (.bl true) h) : (gIs .non .non h).xp E Q := q
theorem p_isNI {z : Int} {h : Hs} {E : D → Hs → Prop} {Q : D → Hs → Prop} (q : Q (.bl false) h) : (gIs (.int z) .non h).xp E Q := q
theorem p_isntNN {h : Hs} {E : D → Hs → Prop} {Q : D → Hs → Prop} (q : Q (.bl false) h) : (gIsNot .non .non h).xp E Q := q
theorem p_isntNI {z : Int} {h : Hs} {E : D → Hs → Prop} {Q : D → Hs → Prop} (q : Q (.bl true) h) : (gIsNot (.int z) .non h).xp E Q := q
theorem hCons_ok {cs : List Str} {f c : Str} {i L : Nat} {g : List D → Ev → Hs → Option Hs} {v : D} {r : List D} {ρ : Ev} {H : Hs} {fs : List (Str × D)} (e : ρ[i]? = some (some (.ref L))) (o : H[L]? = some (.ins c fs)) (hc : c ∈ cs) (hl : fs.length < 900) :
    hCons cs f (sVar i) g (v :: r) ρ H = g r ρ (H.set L (.ins c (putFD f v fs))) := by
  have e1 : sVar i ρ H = .ok (.ref L) H := by unfold sVar; rw [e]
  have e2 : mutI (.ref L) H = some (L, c, fs) := by unfold mutI; simp only [o]
  unfold hCons
  simp only [e1, e2]
  rw [if_pos ⟨hc, hl⟩]
theorem mutI_ok' {L : Nat} {c : Str} {H : Hs} {fs : List (Str × D)} (o : H[L]? = some (.ins c fs)) : mutI (.ref L) H = some (L, c, fs) := by unfold mutI; simp only [o]
theorem p_eqS {u v : D} {a b : PyData} {h : Hs} {E : D → Hs → Prop} {Q : D → Hs → Prop} (e0 : scE u v = none) (e1 : toPh u h = some a) (e2 : toPh v h = some b) (s1 : SeqAt.shaped a = true) (s2 : SeqAt.shaped b = true) (q : Q (.bl (PyData.eqv a b)) h) : (gEq u v h).xp E Q := by
  have e : eqD u v h = some (PyData.eqv a b) := by
    unfold eqD
    rw [e0, e1, e2]
    simp only [s1, s2, and_self, if_true]
  show R.xp (match eqD u v h with | some b => R.ok (D.bl b) h | none => .no) E Q
  rw [e]
  exact q
theorem log_ok {i : Int} (h0 : 0 ≤ i) (h1 : i ≤ 1000) : i.natAbs.log2 < 1920 := by
  by_cases hz : i.natAbs = 0
  · rw [hz]; decide
  · refine (Nat.log2_lt hz).mpr (Nat.lt_of_lt_of_le (show i.natAbs < 2 ^ 10 by omega) (Nat.pow_le_pow_right (by decide) (by decide)))
theorem shw_ok {i : Int} (h0 : 0 ≤ i) (h1 : i ≤ 1000) : (PyData.shown (.int i)).length ≤ 13 := by
  have e := int_text_length_le10 (a := i) (k := 4) (by decide) (by omega)
  show (Str.ofString (toString i)).length ≤ 13
  rw [PySem.ofString_length]
  omega
theorem wgt_int {i : Int} (h0 : 0 ≤ i) (h1 : i ≤ 1000) : PyData.weight (.int i) ≤ 11 := by
  show (if i == 0 then 0 else i.natAbs.log2 + 1) ≤ 11
  split
  · omega
  · rename_i hz
    have hz : i.natAbs ≠ 0 := by
      intro e
      have : i = 0 := by omega
      simp [this] at hz
    have := (Nat.log2_lt hz).mpr (show i.natAbs < 2 ^ 10 by omega)
    omega
theorem wp_st {α : Type} {r : R α} {E : D → Hs → Prop} {Q : α → Hs → Prop} (w : r.xp noE Q) : r.st.xp E Q := by
  cases r with
  | ok a h => exact w
  | er e h => exact w.elim
  | no => exact w.elim
theorem w_lenR {r : R D} {E : D → Hs → Prop} {Q : D → Hs → Prop} (w : r.xp noE fun d h => ∃ n : Int, d = .int n ∧ (0 ≤ n ∧ n < 2 ^ 63) ∧ Q (.int n) h) : (lenR r.st).xp E Q := by
  obtain ⟨d, h, e, n, rfl, hn, q⟩ := w.get
  rw [e]
  unfold lenR R.st R.bind
  dsimp only
  rw [if_pos hn]
  exact q
theorem w_truO {tb : Tbl} {fe : SE} {ρ : Ev} {h : Hs} {E : D → Hs → Prop} {Q : Bool → Hs → Prop} (q : (fe ρ h).xp E fun d h1 => (truO tb d h1).xp E Q) : (sTruO tb fe ρ h).xp E Q := w_bind q
theorem p_neS {a b : Str} {h : Hs} {E : D → Hs → Prop} {Q : D → Hs → Prop} (q : Q (.bl (!decide (a = b))) h) : (gNe (.str a) (.str b) h).xp E Q := q
theorem cut_map {α : Type} (f : α → D) (l : List α) (lo hi : Option Int) : ∃ a b, G.cutD (l.map f) lo hi = ((l.drop a).take b).map f := by
  refine ⟨HT.sIx l.length 0 lo, HT.sIx l.length l.length hi - HT.sIx l.length 0 lo, ?_⟩
  unfold G.cutD
  rw [List.length_map, ← List.map_drop, ← List.map_take]
theorem OB.blw_mono {n k : Nat} (h : n ≤ k) : ∀ {o : OB}, o.blw n = true → o.blw k = true
  | .lst ds, e => belows_mono h ds e
  | .dct ds, e => belowk_mono h ds e
  | .ins _ ds, e => belowf_mono h ds e

def inABC (c : Nat) : Bool := decide (97 ≤ c ∧ c ≤ 122)
def isNm : D → Bool
  | .str x => decide (1 ≤ x.length ∧ x.length ≤ 8) && x.cps.toList.all inABC
  | _ => false
def NameOk (x : Str) : Prop := 1 ≤ x.length ∧ x.length ≤ 8 ∧ ∀ c ∈ x.cps.toList, 97 ≤ c ∧ c ≤ 122
theorem isNm_ok {x : Str} (n : NameOk x) : isNm (.str x) = true := by
  show (decide (1 ≤ x.length ∧ x.length ≤ 8) && x.cps.toList.all inABC) = true
  rw [decide_eq_true ⟨n.1, n.2.1⟩, Bool.true_and, List.all_eq_true]
  exact fun c hc => decide_eq_true (n.2.2 c hc)
theorem isin (c : Nat) : (!(Builtin.Str.occurrences ("abcdefghijklmnopqrstuvwxyz" : Str) ⟨#[c]⟩ 0 ("abcdefghijklmnopqrstuvwxyz" : Str).length 1).isEmpty) = inABC c := by
  rw [PySem.StrLaws.found_one]
  have e : ("abcdefghijklmnopqrstuvwxyz" : Str).cps.toList = (List.range 26).map (97 + ·) := by decide +kernel
  rw [e]
  unfold inABC
  refine decide_eq_decide.mpr ?_
  simp only [List.mem_map, List.mem_range]
  constructor
  · rintro ⟨a, h, rfl⟩; omega
  · intro h; exact ⟨c - 97, by omega, by omega⟩
theorem blsD_map : ∀ (bs : List Bool), blsD (bs.map D.bl) = some bs
  | [] => rfl
  | b :: bs => by simp [blsD, blsD_map bs]
theorem p_all {bs : List Bool} {h : Hs} {E : D → Hs → Prop} {Q : D → Hs → Prop} (q : Q (.bl (bs.all id)) h) : (gAll [.lst (bs.map D.bl)] h).xp E Q := by
  show R.xp (match blsD (bs.map D.bl) with | some ns => R.ok (D.bl (ns.all id)) h | none => .no) E Q
  rw [blsD_map]
  exact q
theorem is_name_wp {d : D} {h : Hs} {E : D → Hs → Prop} {Q : D → Hs → Prop} (t : tyOk CS d h = true) (l : ∀ x, d = .str x → x.length ≤ 1000) (q : Q (.bl (isNm d)) h) : (F_is_name [d] h).xp E Q := by
  refine w_run ?_
  unfold f_is_name
  have hd : (∃ x, d = .str x) ∨ (isStr d = false ∧ isNm d = false) := by cases d <;> simp [isStr, isNm]
  rcases hd with ⟨x, rfl⟩ | ⟨e1, e2⟩
  · have l := l x rfl
    repeat focus done
    refine p_lenS l ?_
    repeat focus done
    refine ⟨fun z1 => ?_, fun z1 => ?_⟩
    · have z1 := of_decide_eq_true z1
      repeat focus done
      refine ⟨fun z => ?_, fun z => ?_⟩
      · have : isNm (.str x) = false := by
          show (decide (1 ≤ x.length ∧ x.length ≤ 8) && x.cps.toList.all inABC) = false
          rw [decide_eq_false (by simp at z; omega), Bool.false_and]
        rw [this] at q
        repeat focus done
        exact q
      · have z := of_decide_eq_true (by simpa using z)
        repeat focus done
        refine w_lr (fun g => g = h) (fun d y => ∃ c, d = .str ⟨#[c]⟩ ∧ y = .bl (inABC c)) ?_
        repeat focus done
        refine ⟨rfl, by simp [Str.length] at l ⊢; omega, rfl, rfl, ?_, ?_⟩
        · intro d hd g acc e _
          subst e
          obtain ⟨c, hc, rfl⟩ := List.mem_map.mp hd
          refine ⟨_, rfl, ?_⟩
          repeat focus done
          refine ⟨rfl, rfl, ?_⟩
          repeat focus done
          exact ⟨rfl, ⟨c, rfl, congrArg D.bl (isin c)⟩, g, rfl, rfl, rfl⟩
        · rintro ys g rfl _ al
          refine ⟨OldOk.refl _, ?_⟩
          have e : ys = (x.cps.toList.map inABC).map D.bl := by
            rw [al_map (g := fun c => D.str ⟨#[c]⟩) (f := fun c => D.bl (inABC c)) (fun a y ⟨c, e1, e2⟩ => by
              injection e1 with e1
              have : a = c := by simpa using e1
              subst this; exact e2) _ al, List.map_map]
            rfl
          subst e
          refine p_all ?_
          have e : isNm (.str x) = (x.cps.toList.map inABC).all id := by
            show (decide (1 ≤ x.length ∧ x.length ≤ 8) && x.cps.toList.all inABC) = _
            rw [decide_eq_true (by omega), Bool.true_and, List.all_map]
            rfl
          rw [e] at q
          exact q
    · have z1 := of_decide_eq_false z1
      have : isNm (.str x) = false := by
        show (decide (1 ≤ x.length ∧ x.length ≤ 8) && x.cps.toList.all inABC) = false
        rw [decide_eq_false (by omega), Bool.false_and]
      rw [this] at q
      repeat focus done
      exact q
  · repeat focus done
    refine isi_no t (by rw [tyB_str]; exact e1) ?_
    repeat focus done
    rw [e2] at q
    exact q
theorem name_wp {x : Str} {h : Hs} {E : D → Hs → Prop} {Q : D → Hs → Prop} (n : NameOk x) (q : Q (.bl true) h) : (F_is_name [.str x] h).xp E Q :=
  is_name_wp rfl (fun y e => by injection e with e; subst e; have := n.2.1; omega) (by rw [isNm_ok n]; exact q)
theorem isNm_str {d : D} (h : isNm d = true) : ∃ x, d = .str x ∧ NameOk x := by
  cases d with
  | str x =>
    have h2 : (decide (1 ≤ x.length ∧ x.length ≤ 8) && x.cps.toList.all inABC) = true := h
    rw [Bool.and_eq_true, List.all_eq_true] at h2
    have h3 := of_decide_eq_true h2.1
    exact ⟨x, rfl, h3.1, h3.2, fun c hc => of_decide_eq_true (h2.2 c hc)⟩
  | _ => cases h

def isInt : D → Bool
  | .int _ => true
  | _ => false
def inRg (a b : Int) : D → Bool
  | .int z => decide (a ≤ z ∧ z ≤ b)
  | _ => false
theorem ty_int {d : D} {h : Hs} : (tyB "int" d h && !tyB "bool" d h) = isInt d := by
  unfold tyB
  cases d with
  | ref n =>
    unfold tyD isInt
    dsimp only
    split
    · rename_i t e
      split at e <;> cases e <;> rfl
    · rfl
  | _ => rfl
theorem is_whole_wp {d : D} {h : Hs} {E : D → Hs → Prop} {Q : D → Hs → Prop} (t : tyOk CS d h = true) (q : Q (.bl (isInt d)) h) : (F_is_whole [d] h).xp E Q := by
  refine w_run ?_
  unfold f_is_whole
  rw [← ty_int (h := h)] at q
  repeat focus done
  refine isi_b t _ rfl (fun e => ?_) fun e => ?_
  · rw [e] at q
    repeat focus done
    refine isi_b t _ rfl (fun e => ?_) fun e => ?_
    · rw [e] at q
      repeat focus done
      exact q
    · rw [e] at q
      repeat focus done
      exact q
  · rw [e] at q
    repeat focus done
    exact q
theorem is_within_wp {d : D} {a b : Int} {h : Hs} {E : D → Hs → Prop} {Q : D → Hs → Prop} (t : tyOk CS d h = true) (q : Q (.bl (inRg a b d)) h) : (F_is_within [d, .int a, .int b] h).xp E Q := by
  refine w_run ?_
  unfold f_is_within
  repeat focus done
  refine is_whole_wp t ?_
  have hd : (∃ z, d = .int z) ∨ (isInt d = false ∧ inRg a b d = false) := by cases d <;> simp [isInt, inRg]
  rcases hd with ⟨z, rfl⟩ | ⟨e1, e2⟩
  · rw [show isInt (.int z) = true from rfl]
    repeat focus done
    refine ⟨fun z1 => ?_, fun z1 => ?_⟩
    · have z1 := of_decide_eq_true z1
      repeat focus done
      have e : inRg a b (.int z) = decide (z ≤ b) := decide_eq_decide.mpr ⟨fun k => k.2, fun k => ⟨z1, k⟩⟩
      rw [e] at q
      exact q
    · have z1 := of_decide_eq_false z1
      have e : inRg a b (.int z) = false := decide_eq_false fun k => z1 k.1
      rw [e] at q
      exact q
  · rw [e1]
    rw [e2] at q
    repeat focus done
    exact q
theorem within_wp {z a b : Int} {h : Hs} {E : D → Hs → Prop} {Q : D → Hs → Prop} (h1 : a ≤ z) (h2 : z ≤ b) (q : Q (.bl true) h) : (F_is_within [.int z, .int a, .int b] h).xp E Q :=
  is_within_wp rfl (by rw [show inRg a b (.int z) = true from decide_eq_true ⟨h1, h2⟩]; exact q)
def intOf : D → Int
  | .int z => z
  | _ => 0
theorem inRg_int {a b : Int} {d : D} (h : inRg a b d = true) : ∃ z, d = .int z ∧ a ≤ z ∧ z ≤ b := by
  cases d with
  | int z => exact ⟨z, rfl, of_decide_eq_true h⟩
  | _ => cases h

/-- a hold: tool, begin, long -/
abbrev Hd := Str × Int × Int
def encH (t : Hd) : D := .tup [.str t.1, .int t.2.1, .int t.2.2]
def RelH (a b : Hd) : Prop := Spec.ltCps a.1.cps.toList b.1.cps.toList = true ∨ (a.1 = b.1 ∧ a.2.1 + a.2.2 ≤ b.2.1)
structure HOk (c : Int) (hs : List Hd) : Prop where
  len : hs.length ≤ 4
  nm : ∀ t ∈ hs, NameOk t.1
  b0 : ∀ t ∈ hs, 0 ≤ t.2.1
  s0 : ∀ t ∈ hs, 1 ≤ t.2.2
  e0 : ∀ t ∈ hs, t.2.1 + t.2.2 ≤ c
  up : hs.Pairwise RelH
theorem HOk.nil {c : Int} : HOk c [] := ⟨by simp, by simp, by simp, by simp, by simp, .nil⟩
theorem HOk.add {c : Int} {hs : List Hd} {t : Hd} (o : HOk c hs) (l : hs.length < 4) (n : NameOk t.1) (b : 0 ≤ t.2.1) (s : 1 ≤ t.2.2) (e : t.2.1 + t.2.2 ≤ c) (u : ∀ a ∈ hs, RelH a t) : HOk c (hs ++ [t]) := by
  refine ⟨by simp; omega, fun x hx => ?_, fun x hx => ?_, fun x hx => ?_, fun x hx => ?_, ?_⟩
  all_goals first
    | (rcases List.mem_append.mp hx with hx | hx
       · first | exact o.nm x hx | exact o.b0 x hx | exact o.s0 x hx | exact o.e0 x hx
       · rw [List.mem_singleton.mp hx]; assumption)
    | exact List.pairwise_append.mpr ⟨o.up, List.pairwise_singleton _ _, fun a ha b hb => by rw [List.mem_singleton.mp hb]; exact u a ha⟩
def pH (t : Hd) : PyData := .tuple [.str t.1, .int t.2.1, .int t.2.2]
theorem lt_hold {a b : Hd} (r : RelH a b) (s : 1 ≤ a.2.2) : PySem.W.dataLt (pH a) (pH b) = true := by
  show PyProof.Rows.lexLt PyProof.Rows.itemOrd [Sum.inl 1, Sum.inr a.1.cps.toList, Sum.inl 1, Sum.inl a.2.1, Sum.inl 1, Sum.inl a.2.2, Sum.inl 0] [Sum.inl 1, Sum.inr b.1.cps.toList, Sum.inl 1, Sum.inl b.2.1, Sum.inl 1, Sum.inl b.2.2, Sum.inl 0] = true
  rw [lex_self (O := PyProof.Rows.itemOrd)]
  rcases r with r | ⟨e, r⟩
  · have ne : (.inr a.1.cps.toList : Int ⊕ List Nat) ≠ .inr b.1.cps.toList := fun q => by
      injection q with q
      rw [q, ltCps_irr] at r
      cases r
    rw [lex_diff (O := PyProof.Rows.itemOrd) ne]
    rw [PyProof.Rows.ltCps_eq] at r
    exact r
  · rw [e, lex_self (O := PyProof.Rows.itemOrd), lex_self (O := PyProof.Rows.itemOrd)]
    have ne : (.inl a.2.1 : Int ⊕ List Nat) ≠ .inl b.2.1 := fun q => by
      injection q with q
      omega
    rw [lex_diff (O := PyProof.Rows.itemOrd) ne]
    exact decide_eq_true (by omega)
theorem zip_rel : ∀ {hs : List Hd}, hs.Pairwise RelH → ∀ p ∈ hs.zip (hs.drop 1), RelH p.1 p.2 ∧ p.1 ∈ hs
  | [], _, p, h => by simp at h
  | [a], _, p, h => by simp at h
  | a :: b :: r, pw, p, h => by
    have h2 : p ∈ (a, b) :: (b :: r).zip ((b :: r).drop 1) := h
    rcases List.mem_cons.mp h2 with rfl | h2
    · exact ⟨(List.pairwise_cons.mp pw).1 b List.mem_cons_self, List.mem_cons_self⟩
    · obtain ⟨z1, z2⟩ := zip_rel (List.pairwise_cons.mp pw).2 p h2
      exact ⟨z1, List.mem_cons_of_mem _ z2⟩
theorem zip_enc (hs : List Hd) : zipD (hs.map encH) (G.cutD (hs.map encH) (some 1) none) = (hs.zip (hs.drop 1)).map fun p => D.tup [encH p.1, encH p.2] := by
  have e : G.cutD (hs.map encH) (some 1) none = (hs.drop 1).map encH := by
    unfold G.cutD
    rw [show (some (1 : Int)) = some ((1 : Nat) : Int) from rfl, HT.sIx_nat, HT.sIx_none]
    cases hs with
    | nil => rfl
    | cons a r =>
      rw [List.length_map, Nat.min_eq_left (by simp), ← List.map_drop, List.take_of_length_le]
      rw [List.length_map, List.length_drop]; exact Nat.le_refl _
  rw [e]
  unfold zipD
  rw [List.zip_map, List.map_map]
  rfl
theorem toPs_enc : ∀ hs : List Hd, toPs (hs.map encH) = some (hs.map pH)
  | [] => rfl
  | t :: hs => by
    have e : toP (encH t) = some (pH t) := rfl
    simp only [List.map_cons, toPs, e, toPs_enc hs]
theorem strOk_nm {x : Str} (n : NameOk x) : PyData.strOk x = true := by
  unfold PyData.strOk
  rw [← Array.all_toList, List.all_eq_true]
  intro c hc
  have := n.2.2 c hc
  exact decide_eq_true (by omega)
theorem lay_enc : ∀ hs : List Hd, (∀ t ∈ hs, NameOk t.1) → PyData.canLayAll0 (hs.map pH) = true
  | [], _ => rfl
  | t :: hs, h => by
    have e1 := strOk_nm (h t List.mem_cons_self)
    have e2 := lay_enc hs fun u hu => h u (List.mem_cons_of_mem _ hu)
    simp only [List.map_cons, PyData.canLayAll0, pH, PyData.canLay0, e1, e2, Bool.and_self]
theorem dep_enc : ∀ hs : List Hd, PyData.depthAll (hs.map pH) ≤ 1
  | [] => by simp [PyData.depthAll]
  | t :: hs => by
    have e2 := dep_enc hs
    have e1 : PyData.depth (pH t) = 1 := rfl
    simp only [List.map_cons, PyData.depthAll, e1]
    omega
theorem p_eqE {hs : List Hd} {h : Hs} {E : D → Hs → Prop} {Q : D → Hs → Prop} (n : ∀ t ∈ hs, NameOk t.1) (q : Q (.bl hs.isEmpty) h) : (gEq (.tup (hs.map encH)) (.tup []) h).xp E Q := by
  refine p_eqS (a := .tuple (hs.map pH)) (b := .tuple []) rfl ?_ rfl ?_ (by decide) ?_
  · show (toPs (hs.map encH)).map PyData.tuple = _
    rw [toPs_enc]; rfl
  · have := dep_enc hs
    exact Bool.and_eq_true_iff.mpr ⟨by simp only [PyData.canLay0]; exact lay_enc hs n, decide_eq_true (by simp only [PyData.depth]; omega)⟩
  · have e : PyData.eqv (.tuple (hs.map pH)) (.tuple []) = hs.isEmpty := by
      cases hs with
      | nil => rfl
      | cons a r => rfl
    rw [e]
    exact q
theorem wgt_str {x : Str} (n : NameOk x) : PyData.weight (.str x) ≤ 8 := n.2.1
theorem wgt_enc : ∀ hs : List Hd, (∀ t ∈ hs, NameOk t.1) → (∀ t ∈ hs, 0 ≤ t.2.1 ∧ t.2.1 ≤ 99 ∧ 0 ≤ t.2.2 ∧ t.2.2 ≤ 99) → PyData.weightAll (hs.map pH) ≤ hs.length * 40 ∧ PyData.showableAll (hs.map pH) = true ∧ PyData.hasDictAll (hs.map pH) = false ∧ PyData.intsShortAll 13 (hs.map pH) = true
  | [], _, _ => by refine ⟨by simp [PyData.weightAll], rfl, rfl, rfl⟩
  | t :: hs, h, hb => by
    obtain ⟨e1, e2, e3, e4⟩ := wgt_enc hs (fun u hu => h u (List.mem_cons_of_mem _ hu)) fun u hu => hb u (List.mem_cons_of_mem _ hu)
    obtain ⟨b0, b1, s0, s1⟩ := hb t List.mem_cons_self
    have w1 := wgt_str (h t List.mem_cons_self)
    have w2 := wgt_int b0 (by omega)
    have w3 := wgt_int s0 (by omega)
    refine ⟨?_, ?_, ?_, ?_⟩
    · have e : PyData.weight (pH t) ≤ 33 := by
        show PyData.weight (.str t.1) + 1 + (PyData.weight (.int t.2.1) + 1 + (PyData.weight (.int t.2.2) + 1 + 0)) ≤ 33
        omega
      have e0 : PyData.weightAll ((t :: hs).map pH) = PyData.weight (pH t) + 1 + PyData.weightAll (hs.map pH) := by simp only [List.map_cons, PyData.weightAll]
      rw [e0, List.length_cons]
      omega
    · have l1 := decide_eq_true (log_ok b0 (by omega))
      have l2 := decide_eq_true (log_ok s0 (by omega))
      simp only [List.map_cons, PyData.showableAll, pH, PyData.showable, e2, l1, l2, Bool.and_self]
    · simp only [List.map_cons, PyData.hasDictAll, pH, PyData.hasDict, e3, Bool.or_self]
    · have l1 := decide_eq_true (shw_ok b0 (by omega))
      have l2 := decide_eq_true (shw_ok s0 (by omega))
      simp only [List.map_cons, PyData.intsShortAll, pH, PyData.intsShort, e4, l1, l2, Bool.and_self]
/-! a hold, or not -/
def isHold (c : Int) : D → Bool
  | .tup [a, b, s] => isNm a && (inRg 0 c b && (inRg 1 c s && decide (intOf b + intOf s ≤ c)))
  | _ => false
def toHd : D → Hd
  | .tup [.str x, .int b, .int s] => (x, b, s)
  | _ => ("", 0, 0)
theorem isHold_enc {c : Int} {d : D} (h : isHold c d = true) : d = encH (toHd d) ∧ NameOk (toHd d).1 ∧ 0 ≤ (toHd d).2.1 ∧ 1 ≤ (toHd d).2.2 ∧ (toHd d).2.1 + (toHd d).2.2 ≤ c := by
  unfold isHold at h
  split at h
  · rename_i a b s
    simp only [Bool.and_eq_true] at h
    obtain ⟨h1, h2, h3, h4⟩ := h
    obtain ⟨x, rfl, nx⟩ := isNm_str h1
    obtain ⟨y, rfl, y0, y1⟩ := inRg_int h2
    obtain ⟨z, rfl, z0, z1⟩ := inRg_int h3
    exact ⟨rfl, nx, y0, z0, of_decide_eq_true h4⟩
  · cases h
theorem isHold_of {c : Int} {t : Hd} (n : NameOk t.1) (b : 0 ≤ t.2.1) (s : 1 ≤ t.2.2) (e : t.2.1 + t.2.2 ≤ c) : isHold c (encH t) = true := by
  show (isNm (.str t.1) && (inRg 0 c (.int t.2.1) && (inRg 1 c (.int t.2.2) && decide (t.2.1 + t.2.2 ≤ c)))) = true
  rw [isNm_ok n, show inRg 0 c (.int t.2.1) = true from decide_eq_true ⟨b, by omega⟩, show inRg 1 c (.int t.2.2) = true from decide_eq_true ⟨s, by omega⟩, decide_eq_true e]
  rfl
/-- what a hold's place may hold -/
def HoldP (d : D) : Prop := tyP CS d = true ∧ ∀ ds, d = .tup ds → ∀ x ∈ ds, ArgP x
theorem len3 {α : Type} {l : List α} (h : l.length = 3) : ∃ a b c, l = [a, b, c] := by
  match l, h with
  | [a, b, c], _ => exact ⟨a, b, c, rfl⟩
theorem is_hold_wp {d : D} {c : Int} {h : Hs} {E : D → Hs → Prop} {Q : D → Hs → Prop} (t : HoldP d) (q : Q (.bl (isHold c d)) h) : (F_is_hold [d, .int c] h).xp E Q := by
  refine w_run ?_
  unfold f_is_hold
  have hd : (∃ ds, d = .tup ds) ∨ (isTup d = false ∧ isHold c d = false) := by cases d <;> simp [isTup, isHold]
  rcases hd with ⟨ds, rfl⟩ | ⟨e1, e2⟩
  · by_cases l : ds.length = 3
    · obtain ⟨a, b, s, rfl⟩ := len3 l
      have ta := t.2 _ rfl a (by simp)
      have tb := t.2 _ rfl b (by simp)
      have ts := t.2 _ rfl s (by simp)
      have e : isHold c (.tup [a, b, s]) = (isNm a && (inRg 0 c b && (inRg 1 c s && decide (intOf b + intOf s ≤ c)))) := rfl
      rw [e] at q
      repeat focus done
      refine ⟨fun z => absurd z (by simp), fun _ => ?_⟩
      repeat focus done
      refine is_name_wp (tyP_ok ta.1) ta.2 ?_
      cases e1 : isNm a with
      | false =>
        rw [e1] at q
        repeat focus done
        exact q
      | true =>
        rw [e1] at q
        repeat focus done
        refine is_within_wp (tyP_ok tb.1) ?_
        cases e2 : inRg 0 c b with
        | false =>
          rw [e2] at q
          repeat focus done
          exact q
        | true =>
          rw [e2] at q
          repeat focus done
          refine is_within_wp (tyP_ok ts.1) ?_
          cases e3 : inRg 1 c s with
          | false =>
            rw [e3] at q
            repeat focus done
            exact q
          | true =>
            rw [e3] at q
            obtain ⟨y, rfl, _⟩ := inRg_int e2
            obtain ⟨z, rfl, _⟩ := inRg_int e3
            repeat focus done
            exact q
    · have e2 : isHold c (.tup ds) = false := by
        unfold isHold
        split
        · rename_i a b s e
          injection e with e
          subst e
          exact absurd rfl l
        · rfl
      rw [e2] at q
      repeat focus done
      have ne : (!decide ((ds.length : Int) = 3)) = true := by
        rw [decide_eq_false (by omega)]; rfl
      rw [ne]
      repeat focus done
      exact q
  · rw [e2] at q
    repeat focus done
    refine isi_no (tyP_ok t.1) (by rw [tyB_tup]; exact e1) ?_
    repeat focus done
    exact q
def pairOk (p : Hd × Hd) : Bool := PySem.W.dataLt (pH p.1) (pH p.2) && !(decide (p.1.1 = p.2.1) && decide (p.2.2.1 < p.1.2.1 + p.1.2.2))
theorem pairOk_rel {a b : Hd} (r : RelH a b) (s : 1 ≤ a.2.2) : pairOk (a, b) = true := by
  unfold pairOk
  rw [lt_hold r s, Bool.true_and, Bool.not_eq_true']
  rcases r with r | ⟨e, r⟩
  · have ne : a.1 ≠ b.1 := fun q => by rw [q, ltCps_irr] at r; cases r
    rw [decide_eq_false ne, Bool.false_and]
  · rw [decide_eq_false (show ¬ b.2.1 < a.2.1 + a.2.2 by omega), Bool.and_false]
def areHolds (c : Int) : D → Bool
  | .tup ds => decide (ds.length ≤ 4) && (ds.all (isHold c) && (((ds.map toHd).zip ((ds.map toHd).drop 1)).all pairOk))
  | _ => false
theorem toHd_enc : ∀ hs : List Hd, (hs.map encH).map toHd = hs
  | [] => rfl
  | t :: hs => by
    have e : toHd (encH t) = t := rfl
    rw [List.map_cons, List.map_cons, e, toHd_enc hs]
theorem areHolds_ok {c : Int} {hs : List Hd} (o : HOk c hs) : areHolds c (.tup (hs.map encH)) = true := by
  show (decide ((hs.map encH).length ≤ 4) && ((hs.map encH).all (isHold c) && ((((hs.map encH).map toHd).zip (((hs.map encH).map toHd).drop 1)).all pairOk))) = true
  rw [toHd_enc, decide_eq_true (by rw [List.length_map]; exact o.len), Bool.true_and, Bool.and_eq_true]
  refine ⟨?_, ?_⟩
  · rw [List.all_eq_true]
    intro d hd
    obtain ⟨t, ht, rfl⟩ := List.mem_map.mp hd
    exact isHold_of (o.nm t ht) (o.b0 t ht) (o.s0 t ht) (o.e0 t ht)
  · rw [List.all_eq_true]
    intro p hp
    obtain ⟨r, hm⟩ := zip_rel o.up p hp
    exact pairOk_rel r (o.s0 _ hm)
/-- what may be handed in for holds -/
def HoldsP (d : D) : Prop := tyP CS d = true ∧ ∀ ds, d = .tup ds → ds.length ≤ 10000 ∧ ∀ x ∈ ds, HoldP x
theorem p_geD {a b : Hd} {h : Hs} {E : D → Hs → Prop} {Q : D → Hs → Prop} (q : Q (.bl (!PySem.W.dataLt (pH a) (pH b))) h) : (gGeA (encH a) (encH b) h).xp E Q := by
  show R.xp (if okOrd (pH a) (pH b) = true then R.ok (D.bl (!PySem.W.dataLt (pH a) (pH b))) h else .no) E Q
  rw [if_pos (show okOrd (pH a) (pH b) = true from rfl)]
  exact q
theorem enc_all {c : Int} : ∀ {ds : List D}, ds.all (isHold c) = true → ds = (ds.map toHd).map encH
  | [], _ => rfl
  | d :: ds, h => by
    rw [List.all_cons, Bool.and_eq_true] at h
    rw [List.map_cons, List.map_cons, ← (isHold_enc h.1).1, ← enc_all h.2]
theorem are_holds_wp {d : D} {c : Int} {h : Hs} {E : D → Hs → Prop} {Q : D → Hs → Prop} (t : HoldsP d) (q : Q (.bl (areHolds c d)) h) : (F_are_holds [d, .int c] h).xp E Q := by
  refine w_run ?_
  unfold f_are_holds
  have hd : (∃ ds, d = .tup ds) ∨ (isTup d = false ∧ areHolds c d = false) := by cases d <;> simp [isTup, areHolds]
  rcases hd with ⟨ds, rfl⟩ | ⟨e1, e2⟩
  · obtain ⟨lz, tz⟩ := t.2 ds rfl
    have eq : areHolds c (.tup ds) = (decide (ds.length ≤ 4) && (ds.all (isHold c) && (((ds.map toHd).zip ((ds.map toHd).drop 1)).all pairOk))) := rfl
    rw [eq] at q
    repeat focus done
    refine ⟨fun z => ?_, fun z => ?_⟩
    · have z := of_decide_eq_true z
      rw [decide_eq_false (by omega), Bool.false_and] at q
      repeat focus done
      exact q
    · have z := of_decide_eq_false z
      rw [decide_eq_true (by omega), Bool.true_and] at q
      repeat focus done
      refine w_lr (fun g => g = h) (fun d y => y = .bl (isHold c d)) ?_
      repeat focus done
      refine ⟨rfl, lz, rfl, rfl, ?_, ?_⟩
      · intro d hd g acc e _
        subst e
        refine ⟨_, rfl, ?_⟩
        repeat focus done
        refine ⟨rfl, rfl, ?_⟩
        repeat focus done
        refine is_hold_wp (tz d hd) ?_
        exact ⟨rfl, rfl, g, rfl, rfl, rfl⟩
      · rintro ys g rfl _ al
        refine ⟨OldOk.refl _, ?_⟩
        have e : ys = (ds.map (isHold c)).map D.bl := by
          have al2 : Al (fun d y => y = D.bl (isHold c d)) (ds.map id) ys := by rw [List.map_id]; exact al
          rw [al_map (g := id) (f := fun d => D.bl (isHold c d)) (fun a y k => k) ds al2, List.map_map]
          rfl
        subst e
        refine p_all ?_
        have e : (ds.map (isHold c)).all id = ds.all (isHold c) := by rw [List.all_map]; rfl
        rw [e]
        cases ea : ds.all (isHold c) with
        | false =>
          rw [ea] at q
          repeat focus done
          exact q
        | true =>
          rw [ea, Bool.true_and] at q
          have en := enc_all ea
          generalize hhs : ds.map toHd = hs at q en
          subst en
          repeat focus done
          refine w_for (fun r ρ H => H = g ∧ (∃ ps : List (Hd × Hd), r = ps.map (fun p => D.tup [encH p.1, encH p.2]) ∧ ps.all pairOk = (hs.zip (hs.drop 1)).all pairOk) ∧ ∃ o2 o3, ρ = [some (.tup (hs.map encH)), some (.int c), o2, o3]) ?_ ?_ ?_
          · refine w_zpT ?_
            repeat focus done
            refine w_ok ?_
            refine ⟨_, _, rfl, rfl, rfl, rfl, ⟨hs.zip (hs.drop 1), zip_enc hs, rfl⟩, _, _, rfl⟩
          · rintro d r ρ H ⟨rfl, ⟨ps, er, ep⟩, o2, o3, rfl⟩
            obtain ⟨p, ps, rfl⟩ : ∃ p ps', ps = p :: ps' := by
              cases ps with
              | nil => cases er
              | cons p ps => exact ⟨p, ps, rfl⟩
            injection er with er1 er2
            subst er1 er2
            rw [← ep, List.all_cons] at q
            have fin : pairOk p = true → ∀ ρ1 : Ev, (∃ o2 o3, ρ1 = [some (D.tup (hs.map encH)), some (D.int c), o2, o3]) → H = H ∧ (∃ ps2 : List (Hd × Hd), ps.map (fun p => D.tup [encH p.1, encH p.2]) = ps2.map (fun p => D.tup [encH p.1, encH p.2]) ∧ ps2.all pairOk = (hs.zip (hs.drop 1)).all pairOk) ∧ ∃ o2 o3, ρ1 = [some (D.tup (hs.map encH)), some (D.int c), o2, o3] := fun pk ρ1 e =>
              ⟨rfl, ⟨ps, rfl, by rw [← ep, List.all_cons, pk, Bool.true_and]⟩, e⟩
            refine ⟨_, rfl, ?_⟩
            repeat focus done
            refine p_geD ?_
            repeat focus done
            unfold pairOk at q fin
            cases e1 : PySem.W.dataLt (pH p.1) (pH p.2) with
            | false =>
              rw [e1] at q
              repeat focus done
              exact q
            | true =>
              rw [e1] at q fin
              repeat focus done
              refine p_ixT (k := 0) rfl ?_
              repeat focus done
              refine p_ixT (k := 0) rfl ?_
              show R.xp (R.ok (D.bl (decide (p.1.1 = p.2.1))) H) _ _
              refine w_ok ?_
              repeat focus done
              refine ⟨fun he => ?_, fun he => ?_⟩
              · rw [he] at q fin
                repeat focus done
                refine p_ixT (k := 1) rfl ?_
                repeat focus done
                refine p_ixT (k := 2) rfl ?_
                repeat focus done
                refine p_ixT (k := 1) rfl ?_
                repeat focus done
                refine ⟨fun z => ?_, fun z => ?_⟩
                · rw [z] at q
                  repeat focus done
                  exact q
                · rw [z] at fin
                  repeat focus done
                  exact fin rfl _ ⟨_, _, rfl⟩
              · rw [he] at fin
                repeat focus done
                exact fin rfl _ ⟨_, _, rfl⟩
          · rintro ρ H ⟨rfl, ⟨ps, er, ep⟩, o2, o3, rfl⟩
            have : ps = [] := by simpa using er.symm
            subst this
            rw [← ep] at q
            repeat focus done
            exact q
  · rw [e2] at q
    repeat focus done
    refine isi_no (tyP_ok t.1) (by rw [tyB_tup]; exact e1) ?_
    repeat focus done
    exact q
theorem holdsP_enc {hs : List Hd} (l : hs.length ≤ 4) (n : ∀ t ∈ hs, NameOk t.1) : HoldsP (.tup (hs.map encH)) := ⟨rfl, fun ds e => by
  injection e with e
  subst e
  refine ⟨by simp; omega, fun x hx => ?_⟩
  obtain ⟨t, ht, rfl⟩ := List.mem_map.mp hx
  refine ⟨rfl, fun ds e x hx => ?_⟩
  injection e with e
  subst e
  have := (n t ht).2.1
  simp only [List.mem_cons, List.not_mem_nil, or_false] at hx
  rcases hx with rfl | rfl | rfl
  · exact argS (by omega)
  · exact argI rfl rfl
  · exact argI rfl rfl⟩

def isNon : D → Bool
  | .non => true
  | _ => false
theorem p_isN {d : D} {h : Hs} {E : D → Hs → Prop} {Q : D → Hs → Prop} (q : Q (.bl (isNon d)) h) : (gIs d .non h).xp E Q := by cases d <;> exact q
theorem p_isntN {d : D} {h : Hs} {E : D → Hs → Prop} {Q : D → Hs → Prop} (q : Q (.bl (!isNon d)) h) : (gIsNot d .non h).xp E Q := by cases d <;> exact q
def taskBad (x c g t hs : D) : Option Str := if isNm x = false then some "name" else if inRg 1 99 c = false then some "cost" else if inRg 1 600 g = false then some "gap" else if (isNon t = false ∧ inRg 1 (intOf g) t = false) then some "due" else if areHolds (intOf c) hs = false then some "holds" else none
def dueOf (g t : D) : D := if isNon t = true then g else t
def fldT (x c g t hs : D) : List (Str × D) := [("name", x), ("cost", c), ("gap", g), ("due", dueOf g t), ("holds", hs), ("spans", .tup (rngD 0 (intOf c)))]
/-- a task's arguments are good -/
structure TaskOk (x c g t hs : D) : Prop where
  nm : isNm x = true
  co : inRg 1 99 c = true
  ga : inRg 1 600 g = true
  du : isNon t = true ∨ inRg 1 (intOf g) t = true
  ho : areHolds (intOf c) hs = true
theorem areHolds_enc {c : Int} {d : D} (h : areHolds c d = true) : ∃ hs : List Hd, d = .tup (hs.map encH) ∧ hs.length ≤ 4 ∧ (∀ t ∈ hs, NameOk t.1 ∧ 0 ≤ t.2.1 ∧ 1 ≤ t.2.2 ∧ t.2.1 + t.2.2 ≤ c) := by
  unfold areHolds at h
  split at h
  · rename_i ds
    simp only [Bool.and_eq_true, decide_eq_true_eq] at h
    obtain ⟨h1, h2, h3⟩ := h
    refine ⟨ds.map toHd, by rw [← enc_all h2], by simpa using h1, fun t ht => ?_⟩
    obtain ⟨d, hd, rfl⟩ := List.mem_map.mp ht
    obtain ⟨_, a, b, e, f⟩ := isHold_enc (List.all_eq_true.mp h2 d hd)
    exact ⟨a, b, e, f⟩
  · cases h
theorem taskInit_wp {h : Hs} {x c g t hs : D} {E : D → Hs → Prop} {Q : D → Hs → Prop} (hx : ArgP x) (hc : tyP CS c = true) (hg : tyP CS g = true) (ht : tyP CS t = true) (hh : HoldsP hs)
    (q : TaskOk x c g t hs → Q .non (h ++ [.ins "Task" (fldT x c g t hs)])) (e : ∀ p, taskBad x c g t hs = some p → E (.ins "NoTask" [("part", .str p)]) (h ++ [.ins "Task" []])) : (F_Task___init__ [.ref h.length, x, c, g, t, hs] (h ++ [.ins "Task" []])).xp E Q := by
  refine w_run ?_
  unfold f_Task___init__
  unfold taskBad at e
  repeat focus done
  refine is_name_wp (tyP_ok hx.1) hx.2 ?_
  cases e1 : isNm x with
  | false =>
    repeat focus done
    exact ⟨rfl, e _ (by rw [e1]; rfl)⟩
  | true =>
    repeat focus done
    refine is_within_wp (tyP_ok hc) ?_
    cases e2 : inRg 1 99 c with
    | false =>
      repeat focus done
      exact ⟨rfl, e _ (by rw [e1, e2]; rfl)⟩
    | true =>
      repeat focus done
      refine is_within_wp (tyP_ok hg) ?_
      cases e3 : inRg 1 600 g with
      | false =>
        repeat focus done
        exact ⟨rfl, e _ (by rw [e1, e2, e3]; rfl)⟩
      | true =>
        obtain ⟨c, rfl, c0, c1⟩ := inRg_int e2
        obtain ⟨g, rfl, g0, g1⟩ := inRg_int e3
        have last : (isNon t = true ∨ inRg 1 g t = true) → ∀ o5 o6 : Option D, R.xp (F_are_holds [hs, .int c] (h ++ [.ins "Task" []])) E fun d h1 => d = .bl (areHolds c hs) ∧ h1 = h ++ [.ins "Task" []] := fun _ _ _ => are_holds_wp hh ⟨rfl, rfl⟩
        repeat focus done
        refine p_isntN ?_
        have fin : (isNon t = true ∨ inRg 1 g t = true) → areHolds c hs = true → Q .non (h ++ [.ins "Task" (fldT x (.int c) (.int g) t hs)]) := fun k1 k2 => q ⟨e1, e2, e3, k1, k2⟩
        cases e4 : isNon t with
        | true =>
          repeat focus done
          refine are_holds_wp hh ?_
          cases e5 : areHolds c hs with
          | false =>
            repeat focus done
            refine ⟨rfl, e _ ?_⟩
            rw [e1, e2, e3, e4, show areHolds (intOf (.int c)) hs = false from e5]; rfl
          | true =>
            have fin := fin (.inl e4) e5
            repeat focus done
            refine w_asgF ?_
            repeat focus done
            refine ⟨_, h ++ [.ins "Task" [("name", x), ("cost", .int c), ("gap", .int g)]], rfl, rfl, ?_, ?_⟩
            · rw [hCons_ok (L := h.length) (fs := []) rfl (get_last rfl) (by simp) (by simp), set_last rfl]
              rw [hCons_ok (L := h.length) rfl (get_last rfl) (by simp) (of_decide_eq_true (by rfl)), set_last rfl]
              rw [hCons_ok (L := h.length) rfl (get_last rfl) (by simp) (of_decide_eq_true (by rfl)), set_last rfl]
              rfl
            repeat focus done
            refine w_fset ?_
            repeat focus done
            refine p_isN ?_
            rw [e4]
            repeat focus done
            refine ⟨_, _, _, mutI_ok' (get_last rfl), ⟨by simp, by simp⟩, ?_⟩
            rw [set_last rfl]
            repeat focus done
            refine w_fset ?_
            repeat focus done
            refine ⟨_, _, _, mutI_ok' (get_last rfl), ⟨by simp, of_decide_eq_true (by rfl)⟩, ?_⟩
            rw [set_last rfl]
            repeat focus done
            refine w_fset ?_
            refine w_tupRg1 ?_
            repeat focus done
            refine ⟨by unfold okRg; omega, ?_⟩
            repeat focus done
            refine ⟨_, _, _, mutI_ok' (get_last rfl), ⟨by simp, of_decide_eq_true (by rfl)⟩, ?_⟩
            rw [set_last rfl]
            unfold fldT dueOf at fin
            rw [if_pos e4] at fin
            exact fin
        | false =>
          repeat focus done
          refine is_within_wp (tyP_ok ht) ?_
          cases e6 : inRg 1 g t with
          | false =>
            repeat focus done
            refine ⟨rfl, e _ ?_⟩
            rw [e1, e2, e3, e4, show inRg 1 (intOf (.int g)) t = false from e6]; rfl
          | true =>
            repeat focus done
            refine are_holds_wp hh ?_
            cases e5 : areHolds c hs with
            | false =>
              repeat focus done
              refine ⟨rfl, e _ ?_⟩
              rw [e1, e2, e3, e4, show inRg 1 (intOf (.int g)) t = true from e6, show areHolds (intOf (.int c)) hs = false from e5]; rfl
            | true =>
              have fin := fin (.inr e6) e5
              repeat focus done
              refine w_asgF ?_
              repeat focus done
              refine ⟨_, h ++ [.ins "Task" [("name", x), ("cost", .int c), ("gap", .int g)]], rfl, rfl, ?_, ?_⟩
              · rw [hCons_ok (L := h.length) (fs := []) rfl (get_last rfl) (by simp) (by simp), set_last rfl]
                rw [hCons_ok (L := h.length) rfl (get_last rfl) (by simp) (of_decide_eq_true (by rfl)), set_last rfl]
                rw [hCons_ok (L := h.length) rfl (get_last rfl) (by simp) (of_decide_eq_true (by rfl)), set_last rfl]
                rfl
              repeat focus done
              refine w_fset ?_
              repeat focus done
              refine p_isN ?_
              rw [e4]
              repeat focus done
              refine ⟨_, _, _, mutI_ok' (get_last rfl), ⟨by simp, by simp⟩, ?_⟩
              rw [set_last rfl]
              repeat focus done
              refine w_fset ?_
              repeat focus done
              refine ⟨_, _, _, mutI_ok' (get_last rfl), ⟨by simp, of_decide_eq_true (by rfl)⟩, ?_⟩
              rw [set_last rfl]
              repeat focus done
              refine w_fset ?_
              refine w_tupRg1 ?_
              repeat focus done
              refine ⟨by unfold okRg; omega, ?_⟩
              repeat focus done
              refine ⟨_, _, _, mutI_ok' (get_last rfl), ⟨by simp, of_decide_eq_true (by rfl)⟩, ?_⟩
              rw [set_last rfl]
              unfold fldT dueOf at fin
              rw [if_neg (by rw [e4]; decide)] at fin
              exact fin
theorem enc_below {m : Nat} (hs : List Hd) : belows m (hs.map encH) = true := by
  rw [belows_all, List.all_eq_true]
  intro x hx
  obtain ⟨t, _, rfl⟩ := List.mem_map.mp hx
  rfl
theorem rng_below {m : Nat} (a b : Int) : belows m (rngD a b) = true := by
  rw [belows_all, List.all_eq_true]
  intro x hx
  simp only [rngD, List.mem_map] at hx
  obtain ⟨i, _, rfl⟩ := hx
  rfl
theorem mkTask_wp {ga gk : SA} {gD : List D → List D → List D} {nn mm : Nat} {ρ : Ev} {h : Hs} {x c g t hs : D} {E : D → Hs → Prop} {Q : D → Hs → Prop} (hx : ArgP x) (hc : tyP CS c = true) (hg : tyP CS g = true) (ht : tyP CS t = true) (hh : HoldsP hs)
    (e : (ga ρ h).xp noE fun ds h1 => (gk ρ h1).xp noE fun es h2 => (ds.length = nn ∧ es.length = mm) ∧ h2 = h ∧ gD (.ref h.length :: ds) es = [.ref h.length, x, c, g, t, hs])
    (q : TaskOk x c g t hs → Q (.ins "Task" (fldT x c g t hs)) h) (er : ∀ p, taskBad x c g t hs = some p → E (.ins "NoTask" [("part", .str p)]) h) :
    (sTrim (sMake "Task" F_Task___init__ nn mm gD ga gk) ρ h).xp E Q := by
  refine w_trimE (w_make (R.xp.weak (e.mono fun ds h1 w => R.xp.weak (w.mono fun es h2 ⟨l, e2, e3⟩ => ⟨l, ?_⟩))))
  subst e2
  rw [e3]
  refine taskInit_wp hx hc hg ht hh (fun k => ⟨rfl, .ins "Task" (fldT x c g t hs), ?_, OldOk.append _ _, by rw [List.take_left' rfl]; exact q k⟩) fun p hp => ⟨⟨rfl, OldOk.append _ _⟩, by rw [List.take_left' rfl]; exact er p hp⟩
  obtain ⟨k1, k2, k3, k4, k5⟩ := k
  obtain ⟨y, rfl, _⟩ := isNm_str k1
  obtain ⟨c, rfl, _⟩ := inRg_int k2
  obtain ⟨z, rfl, _⟩ := inRg_int k3
  obtain ⟨hs, rfl, _⟩ := areHolds_enc k5
  have ed : ∀ m, D.blw m (dueOf (.int z) t) = true := fun m => by
    unfold dueOf
    rcases k4 with k | k
    · rw [if_pos k]; rfl
    · obtain ⟨w, rfl, _⟩ := inRg_int k
      rfl
  simp only [frz, if_neg (Nat.lt_irrefl _), get_last rfl]
  rw [if_pos]
  simp only [fldT, belowf, D.blw, intOf, enc_below, rng_below, ed, Bool.and_self]
theorem taskOk_bad {x c g t hs : D} (k : TaskOk x c g t hs) : taskBad x c g t hs = none := by
  unfold taskBad
  rw [k.nm, k.co, k.ga, k.ho]
  rcases k.du with e | e <;> rw [e] <;> simp

theorem take_wp {n : Nat} {m : Int} {h : Hs} {E : D → Hs → Prop} {Q : D → Hs → Prop} (p : Pu n h) (m0 : 0 < m) (m1 : m < 1073741824) (k : ∀ t h', Up n h h' → Pu n h' → 0 ≤ t → t < m → Q (.int t) h') : (F__law_take [.ref n, .int m] h).xp E Q := by
  have l := p.lt
  have k2 : ∀ t a b c, 0 ≤ t → t < m → Q (.int t) (h.set n (.lst [.int a, .int b, .int c])) := fun t a b c h0 h1 => k t _ ⟨a, b, c, rfl⟩ (Up.pu p (show Up n h _ from ⟨a, b, c, rfl⟩)) h0 h1
  obtain ⟨a, b, c, e⟩ := id p
  refine w_run ?_
  unfold f__law_take
  repeat focus done
  refine p_ixR (k := 2) e rfl ?_
  repeat focus done
  refine ⟨_, putL_ok (k := 2) e (by simp), ?_⟩
  dsimp only [List.set]
  generalize c + 1 = c1
  have e1 : (h.set n (.lst [.int a, .int b, .int c1]))[n]? = some (.lst [.int a, .int b, .int c1]) := List.getElem?_set_self l
  repeat focus done
  refine p_ixR (k := 0) e1 rfl ?_
  repeat focus done
  refine p_ixR (k := 2) e1 rfl ?_
  repeat focus done
  refine ⟨_, putL_ok (k := 0) e1 (by simp), ?_⟩
  dsimp only [List.set]
  rw [List.set_set]
  generalize (a * (a % 50021 + 20011) + 60013 * c1 + 5) % 1000000021 = a1
  have e2 : (h.set n (.lst [.int a1, .int b, .int c1]))[n]? = some (.lst [.int a1, .int b, .int c1]) := List.getElem?_set_self l
  repeat focus done
  refine p_ixR (k := 1) e2 rfl ?_
  repeat focus done
  refine ⟨fun _ => ?_, fun _ => ?_⟩
  · repeat focus done
    refine p_ixR (k := 1) e2 rfl ?_
    repeat focus done
    refine p_ixR (k := 1) e2 rfl ?_
    repeat focus done
    refine ⟨_, putL_ok (k := 1) e2 (by simp), ?_⟩
    dsimp only [List.set]
    rw [List.set_set]
    repeat focus done
    exact k2 _ _ _ _ (Int.emod_nonneg _ (by omega)) (Int.emod_lt_of_pos _ m0)
  · repeat focus done
    refine p_ixR (k := 0) e2 rfl ?_
    repeat focus done
    exact k2 _ _ _ _ (Int.emod_nonneg _ (by omega)) (Int.emod_lt_of_pos _ m0)
theorem take_app {n : Nat} {m : Int} {g t : Hs} {E : D → Hs → Prop} {Q : D → Hs → Prop} (p : Pu n g) (m0 : 0 < m) (m1 : m < 1073741824) (k : ∀ i g', Up n g g' → Pu n g' → g'.length = g.length → 0 ≤ i → i < m → Q (.int i) (g' ++ t)) : (F__law_take [.ref n, .int m] (g ++ t)).xp E Q :=
  take_wp (p.app t) m0 m1 fun i H u _ i0 i1 => by
    obtain ⟨g', rfl, u'⟩ := Up.app p.lt u
    exact k i g' u' (u'.pu p) u'.len i0 i1

/-- the tools still to come: rising, above all that are held -/
structure TOk (hs : List Hd) (r : List Str) : Prop where
  nm : ∀ x ∈ r, NameOk x
  up : r.Pairwise fun a b => Spec.ltCps a.cps.toList b.cps.toList = true
  ab : ∀ t ∈ hs, ∀ x ∈ r, Spec.ltCps t.1.cps.toList x.cps.toList = true
theorem TOk.tl {hs : List Hd} {x : Str} {r : List Str} (o : TOk hs (x :: r)) : TOk hs r := ⟨fun y hy => o.nm y (List.mem_cons_of_mem _ hy), (List.pairwise_cons.mp o.up).2, fun t ht y hy => o.ab t ht y (List.mem_cons_of_mem _ hy)⟩
theorem TOk.add {hs : List Hd} {x : Str} {r : List Str} (o : TOk hs (x :: r)) (b s : Int) : TOk (hs ++ [(x, b, s)]) r := ⟨o.tl.nm, o.tl.up, fun t ht y hy => by
  rcases List.mem_append.mp ht with ht | ht
  · exact o.tl.ab t ht y hy
  · rw [List.mem_singleton.mp ht]
    exact (List.pairwise_cons.mp o.up).1 y hy⟩
theorem TOk.add2 {hs : List Hd} {x : Str} {r : List Str} {b s : Int} (o : TOk (hs ++ [(x, b, s)]) r) (b2 s2 : Int) : TOk (hs ++ [(x, b, s)] ++ [(x, b2, s2)]) r := ⟨o.nm, o.up, fun t ht y hy => by
  rcases List.mem_append.mp ht with ht | ht
  · exact o.ab t ht y hy
  · rw [List.mem_singleton.mp ht]
    exact o.ab (x, b, s) (List.mem_append_right _ (List.mem_singleton.mpr rfl)) y hy⟩
theorem srt_up {xs : List Str} (nd : xs.Nodup) : (sortS xs).Pairwise fun a b => Spec.ltCps a.cps.toList b.cps.toList = true := by
  have h1 : (sortS xs).Pairwise fun a b => leS a b = true := List.pairwise_mergeSort (fun a b c h1 h2 => leS_trans a b c h1 h2) (fun a b => leS_total a b) xs
  have h2 : (sortS xs).Nodup := (List.mergeSort_perm xs leS).nodup_iff.mpr nd
  refine (h1.and h2).imp fun {a b} ⟨h, ne⟩ => ?_
  cases e : Spec.ltCps a.cps.toList b.cps.toList with
  | true => rfl
  | false =>
    refine absurd (leS_anti a b h ?_) ne
    unfold leS
    rw [e]; rfl
theorem srt_mem {xs : List Str} {x : Str} (h : x ∈ sortS xs) : x ∈ xs := by
  unfold sortS at h
  exact (List.mergeSort_perm xs leS).mem_iff.mp h
theorem srt_len {xs : List Str} : (sortS xs).length = xs.length := by
  unfold sortS
  exact (List.mergeSort_perm xs leS).length_eq
def IH (n : Nat) (h : Hs) (c : Int) (ts : List D) (r : List D) (ρ : Ev) (H : Hs) : Prop := ∃ g hs rs o4 o5 o6 o7, H = g ++ [.lst (hs.map encH)] ∧ Up n h g ∧ Pu n g ∧ r = rs.map D.str ∧ HOk c hs ∧ TOk hs rs ∧ ρ = [some (.ref n), some (.int c), some (.lst ts), some (.ref h.length), o4, o5, o6, o7]
theorem holds_wp {n : Nat} {c : Int} {xs : List Str} {h : Hs} {E : D → Hs → Prop} {Q : D → Hs → Prop} (p : Pu n h) (c0 : 1 ≤ c) (c1 : c ≤ 99) (xl : xs.length ≤ 12) (xn : ∀ x ∈ xs, NameOk x) (nd : xs.Nodup)
    (k : ∀ hs g, HOk c hs → Up n h g → Pu n g → Q (.tup (hs.map encH)) (g ++ [.lst (hs.map encH)])) : (F__law_holds [.ref n, .int c, .lst (xs.map D.str)] h).xp E Q := by
  refine w_run ?_
  unfold f__law_holds
  repeat focus done
  refine w_for (IH n h c (xs.map D.str)) ?_ ?_ ?_
  · repeat focus done
    refine p_sorted (by omega) ?_
    refine ⟨_, rfl, rfl, h, [], sortS xs, none, none, none, none, rfl, Up.refl p, p, rfl, HOk.nil, ⟨fun x hx => xn x (srt_mem hx), srt_up nd, by simp⟩, rfl⟩
  · rintro d r ρ H ⟨g, hs, rs, o4, o5, o6, o7, rfl, u, pg, er, ho, to, rfl⟩
    obtain ⟨x, rs, rfl⟩ : ∃ x rs', rs = x :: rs' := by
      cases rs with
      | nil => cases er
      | cons x rs => exact ⟨x, rs, rfl⟩
    injection er with e1 e2
    subst e1 e2
    have gl : g.length = h.length := u.len
    have xk : NameOk x := to.nm x List.mem_cons_self
    have xa : ∀ t ∈ hs, Spec.ltCps t.1.cps.toList x.cps.toList = true := fun t ht => to.ab t ht x List.mem_cons_self
    refine ⟨_, rfl, ?_⟩
    repeat focus done
    refine p_lenR (get_last gl) ?_
    repeat focus done
    refine ⟨fun hc => ?_, fun _ => ?_⟩
    · have hl : hs.length < 4 := by
        have := of_decide_eq_true hc
        simp at this
        omega
      repeat focus done
      refine take_app pg (by omega) (by omega) fun i1 g1 u1 p1 l1 i10 i11 => ?_
      repeat focus done
      refine ⟨fun _ => ?_, fun _ => ?_⟩
      · repeat focus done
        refine take_app p1 (by omega) (by omega) fun b g2 u2 p2 l2 b0 b1 => ?_
        repeat focus done
        refine take_app p2 (by omega) (by omega) fun s g3 u3 p3 l3 s0 s1 => ?_
        repeat focus done
        have gl3 : g3.length = h.length := by omega
        refine ⟨isL (get_last gl3), ?_⟩
        repeat focus done
        refine p_app (get_last gl3) (by simp; omega) ?_
        rw [set_last gl3]
        have e : hs.map encH ++ [D.tup [.str x, .int b, .int (1 + s)]] = (hs ++ [(x, b, 1 + s)]).map encH := by simp [encH]
        rw [e]
        have ho2 : HOk c (hs ++ [(x, b, 1 + s)]) := ho.add hl xk b0 (show 1 ≤ 1 + s by omega) (show b + (1 + s) ≤ c by omega) fun a ha => .inl (xa a ha)
        have ug3 : Up n h g3 := ((u.trans u1).trans u2).trans u3
        repeat focus done
        refine p_lenR (get_last gl3) ?_
        repeat focus done
        refine ⟨fun hc2 => ?_, fun _ => ?_⟩
        · have hl2 : (hs ++ [(x, b, 1 + s)]).length < 4 := by
            have := of_decide_eq_true hc2
            simp at this ⊢
            omega
          repeat focus done
          refine ⟨fun hr => ?_, fun _ => ?_⟩
          · have hr := of_decide_eq_true hr
            repeat focus done
            refine take_app p3 (by omega) (by omega) fun i4 g4 u4 p4 l4 i40 i41 => ?_
            repeat focus done
            refine ⟨fun _ => ?_, fun _ => ?_⟩
            · repeat focus done
              refine take_app p4 (by omega) (by omega) fun i5 g5 u5 p5 l5 i50 i51 => ?_
              repeat focus done
              refine take_app p5 (by omega) (by omega) fun i6 g6 u6 p6 l6 i60 i61 => ?_
              repeat focus done
              refine p_ixA (fun d => ∃ z, d = .int z ∧ 0 ≤ z ∧ z < c - (b + (1 + s))) i60 i61 (by
                intro d hd
                simp only [List.mem_cons, List.not_mem_nil, or_false] at hd
                rcases hd with rfl | rfl
                · exact ⟨_, rfl, by omega, by omega⟩
                · exact ⟨_, rfl, i50, i51⟩) ?_
              rintro _ ⟨z, rfl, z0, z1⟩
              repeat focus done
              have gl6 : g6.length = h.length := by omega
              refine ⟨isL (get_last gl6), ?_⟩
              repeat focus done
              refine take_app p6 (by omega) (by omega) fun i7 g7 u7 p7 l7 i70 i71 => ?_
              repeat focus done
              have gl7 : g7.length = h.length := by omega
              refine p_app (get_last gl7) (by simp; omega) ?_
              rw [set_last gl7]
              have e : (hs ++ [(x, b, 1 + s)]).map encH ++ [D.tup [.str x, .int (b + (1 + s) + z), .int (1 + i7)]] = (hs ++ [(x, b, 1 + s)] ++ [(x, b + (1 + s) + z, 1 + i7)]).map encH := by simp [encH]
              rw [e]
              refine ⟨g7, _, rs, _, _, _, _, rfl, (((ug3.trans u4).trans u5).trans u6).trans u7, p7, rfl, ho2.add hl2 xk (show 0 ≤ b + (1 + s) + z by omega) (show 1 ≤ 1 + i7 by omega) (show b + (1 + s) + z + (1 + i7) ≤ c by omega) (fun a ha => ?_), (to.add b (1 + s)).add2 _ _, rfl⟩
              rcases List.mem_append.mp ha with ha | ha
              · exact .inl (xa a ha)
              · rw [List.mem_singleton.mp ha]
                exact .inr ⟨rfl, show b + (1 + s) ≤ b + (1 + s) + z by omega⟩
            · repeat focus done
              exact ⟨g4, _, rs, _, _, _, _, rfl, ug3.trans u4, p4, rfl, ho2, to.add b (1 + s), rfl⟩
          · repeat focus done
            exact ⟨g3, _, rs, _, _, _, _, rfl, ug3, p3, rfl, ho2, to.add b (1 + s), rfl⟩
        · repeat focus done
          exact ⟨g3, _, rs, _, _, _, _, rfl, ug3, p3, rfl, ho2, to.add b (1 + s), rfl⟩
      · repeat focus done
        exact ⟨g1, _, rs, _, _, _, _, rfl, u.trans u1, p1, rfl, ho, to.tl, rfl⟩
    · repeat focus done
      exact ⟨g, _, rs, _, _, _, _, rfl, u, pg, rfl, ho, to.tl, rfl⟩
  · rintro ρ H ⟨g, hs, rs, o4, o5, o6, o7, rfl, u, pg, er, ho, to, rfl⟩
    repeat focus done
    refine p_tupR (get_last u.len) ?_
    exact k hs g ho u pg

abbrev ABC : Str := "abcdefghijklmnopqrstuvwxyz"
theorem p_letter {t : Int} {h : Hs} {E : D → Hs → Prop} {Q : D → Hs → Prop} (t0 : 0 ≤ t) (t1 : t < 26) (q : Q (.str ⟨#[97 + t.toNat]⟩) h) : (gIx (.str ABC) (.int t) h).xp E Q := by
  obtain ⟨k, rfl⟩ := Int.eq_ofNat_of_zero_le t0
  have e : ∀ k : Fin 26, (ABC.cps.toList)[k.1]? = some (97 + k.1) := by decide +kernel
  have e1 := e ⟨k, by omega⟩
  dsimp only at e1
  have e2 : atI ABC.cps.toList (k : Int) = some (97 + k) := by
    unfold atI ixN
    obtain ⟨hl, hv⟩ := List.getElem?_eq_some_iff.mp e1
    rw [if_pos (by omega), if_pos (by omega)]
    show ABC.cps.toList[(k : Int).toNat]? = _
    rw [Int.toNat_natCast]
    exact e1
  show R.xp (if ABC.length ≤ sizeLine then (match atI ABC.cps.toList (k : Int) with | some c => R.ok (D.str ⟨#[c]⟩) h | none => .no) else .no) E Q
  rw [if_pos (by decide +kernel), e2]
  exact q
theorem join_letters (cs : List Nat) : Txt.join ("" : Str) (cs.map fun c => (⟨#[c]⟩ : Str)) = ⟨cs.toArray⟩ := by
  have e1 : (cs.map fun c => (⟨#[c]⟩ : Str)) = (cs.map fun c => [c]).map SX.S := by simp
  have e2 : ∀ l : List Nat, TL.joinL [] (l.map fun c => [c]) = l := by
    intro l
    induction l with
    | nil => rfl
    | cons a l ih =>
      cases l with
      | nil => rfl
      | cons b l =>
        show [a] ++ ([] ++ TL.joinL [] ((b :: l).map fun c => [c])) = _
        rw [ih]; rfl
  rw [e1]
  have e3 : ("" : Str) = SX.S [] := by decide +kernel
  rw [e3, SX.join_S, e2]
theorem strs_letters : ∀ cs : List Nat, strsD (cs.map fun c => D.str ⟨#[c]⟩) = some (cs.map fun c => (⟨#[c]⟩ : Str))
  | [] => rfl
  | c :: cs => by simp [strsD, strs_letters cs]
theorem p_join {cs : List Nat} {h : Hs} {E : D → Hs → Prop} {Q : D → Hs → Prop} (l : cs.length ≤ 1000) (q : Q (.str ⟨cs.toArray⟩) h) : (gJoin (.str "") [.lst (cs.map fun c => D.str ⟨#[c]⟩)] h).xp E Q := by
  show R.xp (match strsD (cs.map fun c => D.str ⟨#[c]⟩) with | some ys => (if (ys.map (·.length)).sum + ys.length * ("" : Str).length ≤ 16777216 then R.ok (D.str (Txt.join "" ys)) h else .no) | none => .no) E Q
  rw [strs_letters]
  have hs : ((cs.map fun c => (⟨#[c]⟩ : Str)).map (·.length)).sum = cs.length := by
    clear q l
    induction cs with
    | nil => rfl
    | cons a cs ih =>
      have := ih
      rw [List.map_cons, List.map_cons, List.sum_cons, List.length_cons, this]
      show 1 + cs.length = cs.length + 1
      omega
  dsimp only
  rw [hs, List.length_map, if_pos (by rw [show ("" : Str).length = 0 from by decide +kernel]; omega), join_letters]
  exact q
theorem cut_lo {cs : List Nat} {c : Nat} (l : c ≤ cs.length) : cutS ⟨cs.toArray⟩ none (some (c : Int)) = ⟨(cs.take c).toArray⟩ := by
  unfold cutS
  rw [HT.sIx_nat]
  have hl : (⟨cs.toArray⟩ : Str).length = cs.length := by show cs.toArray.size = _; simp
  rw [hl, Nat.min_eq_left l, HT.sIx_none]
  simp
theorem cut_hi {cs : List Nat} {c : Nat} (l : c ≤ cs.length) : cutS ⟨cs.toArray⟩ (some (c : Int)) none = ⟨(cs.drop c).toArray⟩ := by
  unfold cutS
  rw [HT.sIx_nat]
  have hl : (⟨cs.toArray⟩ : Str).length = cs.length := by show cs.toArray.size = _; simp
  rw [hl, Nat.min_eq_left l, HT.sIx_none]
  rw [List.take_of_length_le]
  simp
def ownL : List Str := ["task", "door", "every", "let", "leave", "come", "serve", "end", "in", "soon", "none", "go"]
def Step (s : Int) : Prop := s = 1 ∨ s = 5 ∨ s = 7 ∨ s = 11
theorem own_ok : ∀ i : Fin 12, NameOk (ownL.getD i.1 "") := by
  have h : ∀ i : Fin 12, (1 ≤ (ownL.getD i.1 "").length ∧ (ownL.getD i.1 "").length ≤ 8) ∧ (ownL.getD i.1 "").cps.toList.all (fun c => decide (97 ≤ c ∧ c ≤ 122)) = true := by decide +kernel
  intro i
  obtain ⟨⟨a, b⟩, c⟩ := h i
  exact ⟨a, b, fun x hx => of_decide_eq_true (List.all_eq_true.mp c x hx)⟩
theorem own_inj : ∀ i j : Fin 12, ownL.getD i.1 "" = ownL.getD j.1 "" → i = j := by decide +kernel
/-- m unlike names -/
structure Wds (wf : Nat → Str) : Prop where
  ok : ∀ i, i < 12 → NameOk (wf i)
  inj : ∀ i j, i < 12 → j < 12 → wf i = wf j → i = j
theorem wds_own {p s : Int} (h0 : 0 ≤ p) (hs : Step s) : Wds fun i => ownL.getD ((p + s * (i : Nat)) % 12).toNat "" := by
  have b : ∀ i : Nat, ((p + s * (i : Nat)) % 12).toNat < 12 := fun i => by omega
  refine ⟨fun i _ => own_ok ⟨_, b i⟩, fun i j hi hj e => ?_⟩
  have := own_inj ⟨_, b i⟩ ⟨_, b j⟩ e
  have e2 : ((p + s * (i : Nat)) % 12).toNat = ((p + s * (j : Nat)) % 12).toNat := by injection this
  rcases hs with rfl | rfl | rfl | rfl <;> omega
theorem wds_stem {cs : List Nat} {c : Nat} {p s : Int} (hl : cs.length ≤ 7) (hc : ∀ x ∈ cs, 97 ≤ x ∧ x ≤ 122) (h0 : 0 ≤ p) (hs : Step s) :
    Wds fun i => (⟨(cs.take c).toArray⟩ : Str) ++ (⟨#[97 + ((p + s * (i : Nat)) % 26).toNat]⟩ : Str) ++ (⟨(cs.drop c).toArray⟩ : Str) := by
  have e : ∀ x : Nat, ((⟨(cs.take c).toArray⟩ : Str) ++ (⟨#[x]⟩ : Str) ++ (⟨(cs.drop c).toArray⟩ : Str)) = ⟨(cs.take c ++ ([x] ++ cs.drop c)).toArray⟩ := by
    intro x
    show (⟨(cs.take c).toArray ++ #[x] ++ (cs.drop c).toArray⟩ : Str) = _
    simp
  refine ⟨fun i _ => ?_, fun i j hi hj q => ?_⟩
  · rw [e]
    refine ⟨?_, ?_, fun y hy => ?_⟩
    · show 1 ≤ (cs.take c ++ ([_] ++ cs.drop c)).toArray.size
      simp
      omega
    · show (cs.take c ++ ([_] ++ cs.drop c)).toArray.size ≤ 8
      simp
      omega
    · have hy : y ∈ cs.take c ++ ([97 + ((p + s * (i : Nat)) % 26).toNat] ++ cs.drop c) := by simpa using hy
      rcases List.mem_append.mp hy with hy | hy
      · exact hc y (List.mem_of_mem_take hy)
      · rcases List.mem_append.mp hy with hy | hy
        · rw [List.mem_singleton.mp hy]
          omega
        · exact hc y (List.mem_of_mem_drop hy)
  · rw [e, e] at q
    have q1 : cs.take c ++ ([97 + ((p + s * (i : Nat)) % 26).toNat] ++ cs.drop c) = cs.take c ++ ([97 + ((p + s * (j : Nat)) % 26).toNat] ++ cs.drop c) := by
      have := congrArg (fun z : Str => z.cps.toList) q
      simpa using this
    have q2 := List.append_cancel_left q1
    have q3 : 97 + ((p + s * (i : Nat)) % 26).toNat = 97 + ((p + s * (j : Nat)) % 26).toNat := by
      injection q2
    rcases hs with rfl | rfl | rfl | rfl <;> omega
theorem words_wp {n : Nat} {m : Int} {h : Hs} {E : D → Hs → Prop} {Q : D → Hs → Prop} (p : Pu n h) (m0 : 0 ≤ m) (m1 : m ≤ 12) (k : ∀ (wf : Nat → Str) h', Wds wf → Up n h h' → Pu n h' → Q (.lst ((List.range m.toNat).map fun i => .str (wf i))) h') : (F__law_words [.ref n, .int m] h).xp E Q := by
  refine w_run ?_
  unfold f__law_words
  repeat focus done
  refine take_wp p (by omega) (by omega) fun sp h1 u1 p1 sp0 sp1 => ?_
  repeat focus done
  refine take_wp p1 (by omega) (by omega) fun st h2 u2 p2 st0 st1 => ?_
  repeat focus done
  refine p_ixA (fun d => ∃ s, d = .int s ∧ Step s) st0 st1 (by
    intro d hd
    simp only [List.mem_cons, List.not_mem_nil, or_false] at hd
    rcases hd with rfl | rfl | rfl | rfl
    · exact ⟨_, rfl, .inl rfl⟩
    · exact ⟨_, rfl, .inr (.inl rfl)⟩
    · exact ⟨_, rfl, .inr (.inr (.inl rfl))⟩
    · exact ⟨_, rfl, .inr (.inr (.inr rfl))⟩) ?_
  rintro _ ⟨s, rfl, hs⟩
  have hs2 : 1 ≤ s ∧ s ≤ 11 := by rcases hs with rfl | rfl | rfl | rfl <;> omega
  repeat focus done
  refine take_wp p2 (by omega) (by omega) fun ch h3 u3 p3 ch0 ch1 => ?_
  repeat focus done
  refine ⟨fun _ => ?_, fun _ => ?_⟩
  · repeat focus done
    refine w_lr (fun g => g = h3) (fun d y => ∃ i : Nat, d = .int i ∧ y = .str (ownL.getD ((sp + s * (i : Nat)) % 12).toNat "")) ?_
    repeat focus done
    refine ⟨by unfold G.inR; omega, rfl, by show (rngD 0 m).length ≤ 10000; rw [rng_len]; omega, rfl, rfl, ?_, ?_⟩
    · intro d hd g acc e _
      subst e
      obtain ⟨i, rfl, hi⟩ := rng_mem hd
      refine ⟨_, rfl, ?_⟩
      repeat focus done
      refine ⟨rfl, rfl, ?_⟩
      repeat focus done
      have b : ((sp + s * (i : Int)) % 12).toNat < 12 := by omega
      refine p_ixI (d := .str (ownL.getD ((sp + s * (i : Int)) % 12).toNat "")) (by omega) ?_ ?_
      · have e : ∀ j : Fin 12, (ownL.map D.str)[j.1]? = some (.str (ownL.getD j.1 "")) := fun j => by
          have hj : j.1 < ownL.length := j.2
          rw [List.getElem?_map, List.getD_eq_getElem?_getD, List.getElem?_eq_getElem hj]
          rfl
        exact e ⟨_, b⟩
      · exact ⟨rfl, ⟨i, rfl, rfl⟩, g, rfl, rfl, rfl⟩
    · rintro ys g rfl _ al
      refine ⟨OldOk.refl _, ?_⟩
      rw [al_rng al]
      exact k _ _ (wds_own sp0 hs) ((u1.trans u2).trans u3) p3
  · repeat focus done
    refine ⟨rfl, ?_⟩
    repeat focus done
    refine w_lr (fun g => Up n h3 g) (fun _ y => ∃ c, (97 ≤ c ∧ c ≤ 122) ∧ y = .str ⟨#[c]⟩) ?_
    repeat focus done
    refine take_wp p3 (by omega) (by omega) fun sl h4 u4 p4 sl0 sl1 => ?_
    repeat focus done
    refine ⟨by unfold G.inR; omega, rfl, by show (rngD 0 sl).length ≤ 10000; rw [rng_len]; omega, u4.len, u4, ?_, ?_⟩
    · intro d hd g acc u _
      obtain ⟨i, rfl, hi⟩ := rng_mem hd
      refine ⟨_, rfl, ?_⟩
      repeat focus done
      refine ⟨rfl, rfl, ?_⟩
      repeat focus done
      refine take_wp ((u.pu p3).app _) (by omega) (by omega) fun t H u' _ t0 t1 => ?_
      obtain ⟨g', rfl, u''⟩ := Up.app (u.pu p3).lt u'
      refine p_letter t0 t1 ?_
      exact ⟨rfl, ⟨97 + t.toNat, by omega, rfl⟩, g', rfl, u.trans u'', (u.trans u'').len⟩
    · intro ys g u _ al
      refine ⟨u.old p3.lt, ?_⟩
      obtain ⟨cs, rfl, hc, hl⟩ := al_ex al
      have hl7 : cs.length ≤ 7 := by
        rw [hl]
        show (rngD 0 sl).length ≤ 7
        rw [rng_len]; omega
      have pg := u.pu p3
      repeat focus done
      refine p_join (by omega) ?_
      repeat focus done
      have hz : (⟨cs.toArray⟩ : Str).length = cs.length := by show cs.toArray.size = _; simp
      refine p_lenS (by omega) ?_
      repeat focus done
      refine take_wp pg (by omega) (by omega) fun ct h5 u5 p5 ct0 ct1 => ?_
      repeat focus done
      refine take_wp p5 (by omega) (by omega) fun bg h6 u6 p6 bg0 bg1 => ?_
      repeat focus done
      obtain ⟨c, rfl⟩ := Int.eq_ofNat_of_zero_le ct0
      have hcl : c ≤ cs.length := by omega
      refine w_lr (fun g => g = h6) (fun d y => ∃ i : Nat, d = .int i ∧ y = .str ((⟨(cs.take c).toArray⟩ : Str) ++ (⟨#[97 + ((bg + s * (i : Nat)) % 26).toNat]⟩ : Str) ++ (⟨(cs.drop c).toArray⟩ : Str))) ?_
      repeat focus done
      refine ⟨by unfold G.inR; omega, rfl, by show (rngD 0 m).length ≤ 10000; rw [rng_len]; omega, rfl, rfl, ?_, ?_⟩
      · intro d hd g acc e _
        subst e
        obtain ⟨i, rfl, hi⟩ := rng_mem hd
        refine ⟨_, rfl, ?_⟩
        repeat focus done
        refine ⟨rfl, rfl, ?_⟩
        repeat focus done
        refine p_slS (by omega) ?_
        rw [cut_lo hcl]
        repeat focus done
        refine p_letter (by omega) (by omega) ?_
        have la : (⟨(cs.take c).toArray⟩ : Str).length ≤ 7 := by
          show (cs.take c).toArray.size ≤ 7
          simp; omega
        have ld : (⟨(cs.drop c).toArray⟩ : Str).length ≤ 7 := by
          show (cs.drop c).toArray.size ≤ 7
          simp; omega
        refine p_addS (by show _ + 1 ≤ 1000; omega) ?_
        repeat focus done
        refine p_slS (by omega) ?_
        rw [cut_hi hcl]
        refine p_addS ?_ ?_
        · have : ((⟨(cs.take c).toArray⟩ : Str) ++ (⟨#[97 + ((bg + s * (i : Int)) % 26).toNat]⟩ : Str)).length = (⟨(cs.take c).toArray⟩ : Str).length + 1 := by
            show ((cs.take c).toArray ++ #[_]).size = _
            simp [Str.length]
          omega
        · exact ⟨rfl, ⟨i, rfl, rfl⟩, g, rfl, rfl, rfl⟩
      · rintro ys g rfl _ al2
        refine ⟨OldOk.refl _, ?_⟩
        rw [al_rng al2]
        exact k _ _ (wds_stem hl7 hc bg0 hs) (((((u1.trans u2).trans u3).trans u).trans u5).trans u6) p6
theorem wds_nd {wf : Nat → Str} (W : Wds wf) {m : Nat} (hm : m ≤ 12) : ((List.range m).map wf).Nodup := by
  refine List.Pairwise.map (R := fun a b => a ≠ b ∧ a < m ∧ b < m) _ (fun a b ⟨ne, ha, hb⟩ e => ne (W.inj a b (by omega) (by omega) e)) ?_
  refine List.Pairwise.imp_of_mem (R := fun a b => a ≠ b) (fun {a b} ha hb ne => ⟨ne, List.mem_range.mp ha, List.mem_range.mp hb⟩) List.nodup_range

theorem p_addL {a b : List D} {h : Hs} {E : D → Hs → Prop} {Q : D → Hs → Prop} (l : Nat.ble (a.length + b.length) 1000 = true) (q : Q (.lst (a ++ b)) h) : (gAdd (.lst a) (.lst b) h).xp E Q := by
  show R.xp (if a.length + b.length ≤ sizeLine then R.ok (D.lst (a ++ b)) h else .no) E Q
  have := Nat.le_of_ble_eq_true l
  rw [if_pos (by rw [sizeLine_eq]; omega)]
  exact q
theorem w_forS {E : D → Ev → Hs → Prop} {N B C : Ev → Hs → Prop} {T : D → Hs → Prop} {t : D → Ev → Option Ev} {f : SS} {d : D} {r : List D} {ρ : Ev} {h : Hs}
    (q : ∃ ρ1, t d ρ = some ρ1 ∧ (f ρ1 h).xp E (fun ρ2 h2 => (forGo t f rel0 r ρ2 h2).xp E N T B C) T N (fun ρ2 h2 => (forGo t f rel0 r ρ2 h2).xp E N T B C)) : (forGo t f rel0 (d :: r) ρ h).xp E N T B C := by
  obtain ⟨ρ1, e1, w⟩ := q
  unfold forGo
  rw [if_pos (show rel0 h from trivial), e1]
  dsimp only
  generalize f ρ1 h = x at w
  cases x with
  | nx ρ h => exact w
  | rt ρ h => exact w
  | bk ρ h => exact w
  | ct ρ h => exact w
  | er e ρ h => exact w
  | no => exact w.elim
theorem w_forE {E : D → Ev → Hs → Prop} {N B C : Ev → Hs → Prop} {T : D → Hs → Prop} {t : D → Ev → Option Ev} {f : SS} {ρ : Ev} {h : Hs} (q : N ρ h) : (forGo t f rel0 [] ρ h).xp E N T B C := by
  unfold forGo
  rw [if_pos (show rel0 h from trivial)]
  exact q
/-- a loop, turn by turn -/
theorem w_forU {E : D → Ev → Hs → Prop} {N B C : Ev → Hs → Prop} {T : D → Hs → Prop} {s : SI} {t : D → Ev → Option Ev} {f : SS} {ρ : Ev} {h : Hs} (q : (s ρ h).xp (fun e h => E e ρ h) fun q h1 => q.2 = rel0 ∧ (forGo t f rel0 q.1 ρ h1).xp E N T B C) : (sFor s t f ρ h).xp E N T B C := by
  refine w_toS (q.mono fun q h1 ⟨e, i⟩ => ?_)
  obtain ⟨ds, ok⟩ := q
  subst e
  exact i
theorem alF_map {φ : D → Option D} : ∀ {ds ys : List D}, AlF (fun d o => o = φ d) ds ys → ys = ds.filterMap φ
  | _, _, .nil => rfl
  | _, _, .cons p r => by rw [List.filterMap_cons, ← p, ← alF_map r]
  | _, _, .skip p r => by rw [List.filterMap_cons, ← p, ← alF_map r]
theorem p_neR {u : D} {a : PyData} {h : Hs} {E : D → Hs → Prop} {Q : D → Hs → Prop} (e0 : scE u u = none) (e1 : toPh u h = some a) (s1 : SeqAt.shaped a = true) (q : Q (.bl false) h) : (gNe u u h).xp E Q := by
  have e : eqD u u h = some true := by
    unfold eqD
    rw [e0, e1]
    simp only [s1, and_self, if_true]
    rw [SeqAt.eqv_refl _ (Bool.and_eq_true_iff.mp s1).1]
  show R.xp (match eqD u u h with | some b => R.ok (D.bl (!b)) h | none => .no) E Q
  rw [e]
  exact q
theorem p_eqSS {a b : Str} {h : Hs} {E : D → Hs → Prop} {Q : D → Hs → Prop} (q : Q (.bl (decide (a = b))) h) : (gEq (.str a) (.str b) h).xp E Q := q
/-- one of a list -/
theorem p_ixM {ds : List D} {i : Int} {h : Hs} {E : D → Hs → Prop} {Q : D → Hs → Prop} (h0 : 0 ≤ i) (h1 : i < ds.length) (q : ∀ d ∈ ds, Q d h) : (gIx (.lst ds) (.int i) h).xp E Q := p_ixA (fun d => d ∈ ds) h0 h1 (fun _ h => h) fun d hd => q d hd
theorem w_isXb {anc : Anc} {ks : List Str} {i : Nat} {x : XI} {c : Str} {fs : List (Str × D)} {as : List Str} {h : Hs} {ρ : Ev} {E : D → Hs → Prop} {Q : D → Hs → Prop} (b : Bool) (e : ρ[i]? = some (some (.exn x c fs))) (a : anc.lookup c = some as) (k : (ks.any fun k => as.contains k) = b) (q : Q (.bl b) h) : (sIsX anc ks i x ρ h).xp E Q := w_isX e a (by rw [k]; exact q)
theorem p_allT {ds ys : List D} {h : Hs} {E : D → Hs → Prop} {Q : D → Hs → Prop} (al : Al (fun _ y => y = .bl true) ds ys) (q : Q (.bl true) h) : (gAll [.lst ys] h).xp E Q := by
  show R.xp (match blsD ys with | some ns => R.ok (D.bl (ns.all id)) h | none => .no) E Q
  rw [bls_all al]
  have e : (ys.map fun _ => true).all id = true := by
    rw [List.all_eq_true]
    intro x hx
    obtain ⟨_, _, rfl⟩ := List.mem_map.mp hx
    rfl
  show Q (D.bl ((ys.map fun _ => true).all id)) h
  rw [e]
  exact q
theorem p_addRL {n : Nat} {a b : List D} {h : Hs} {E : D → Hs → Prop} {Q : D → Hs → Prop} (o : h[n]? = some (.lst a)) (l : Nat.ble (a.length + b.length) 1000 = true) (q : Q (.lst (a ++ b)) h) : (gAdd (.ref n) (.lst b) h).xp E Q := by
  have e : asLst (.ref n) h = some a := by unfold asLst; simp only [o]
  show R.xp (match asLst (.ref n) h, asLst (.lst b) h with | some ds, some es => (if ds.length + es.length ≤ sizeLine then R.ok (D.lst (ds ++ es)) h else .no) | _, _ => .no) E Q
  rw [e]
  have := Nat.le_of_ble_eq_true l
  show R.xp (if a.length + b.length ≤ sizeLine then R.ok (D.lst (a ++ b)) h else .no) E Q
  rw [if_pos (by rw [sizeLine_eq]; omega)]
  exact q

theorem uniq_nd (ys : List Str) : (uniqX ys).Nodup := by
  have key : ∀ (ys l : List Str), l.Nodup → (ys.foldl (fun l y => if y ∈ l then l else l ++ [y]) l).Nodup := by
    intro ys
    induction ys with
    | nil => intro l h; exact h
    | cons y ys ih =>
      intro l h
      rw [List.foldl_cons]
      refine ih _ ?_
      split
      · exact h
      · rename_i hy
        refine List.nodup_append.mpr ⟨h, by simp, fun a ha b hb => ?_⟩
        rw [List.mem_singleton.mp hb]
        exact fun e => hy (e ▸ ha)
  exact key ys [] .nil

theorem check_within_wp {i a b : Int} {h : Hs} {E : D → Hs → Prop} {Q : D → Hs → Prop} (a0 : a ≤ i) (b0 : i ≤ b) (q : Q .non h) : (F_check_within [.int i, .int a, .int b] h).xp E Q := by
  refine w_run ?_
  unfold f_check_within
  repeat focus done
  refine is_within_wp rfl ?_
  rw [show inRg a b (.int i) = true from decide_eq_true ⟨a0, b0⟩]
  repeat focus done
  exact q

mutual
/-- no truths, no dicts, nothing of own -/
def nb : D → Bool
  | .non => true
  | .int _ => true
  | .str _ => true
  | .tup ds => nbs ds
  | .lst ds => nbs ds
  | _ => false
def nbs : List D → Bool
  | [] => true
  | d :: r => nb d && nbs r
end
mutual
theorem eqv_iff : ∀ (u v : D) (a b : PyData), nb u = true → nb v = true → toP u = some a → toP v = some b → (PyData.eqv a b = true ↔ u = v)
  | .non, v, a, b, n1, n2, e1, e2 => by
    simp only [toP] at e1
    cases e1
    cases v <;> first
      | (cases n2; done)
      | (simp only [toP] at e2; cases e2; simp [PyData.eqv]; done)
      | (simp only [toP, Option.map_eq_some_iff] at e2; obtain ⟨_, _, rfl⟩ := e2; simp [PyData.eqv]; done)
  | .int i, v, a, b, n1, n2, e1, e2 => by
    simp only [toP] at e1
    cases e1
    cases v <;> first
      | (cases n2; done)
      | (simp only [toP] at e2; cases e2; simp [PyData.eqv]; done)
      | (simp only [toP, Option.map_eq_some_iff] at e2; obtain ⟨_, _, rfl⟩ := e2; simp [PyData.eqv]; done)
  | .str i, v, a, b, n1, n2, e1, e2 => by
    simp only [toP] at e1
    cases e1
    cases v <;> first
      | (cases n2; done)
      | (simp only [toP] at e2; cases e2; simp [PyData.eqv]; done)
      | (simp only [toP, Option.map_eq_some_iff] at e2; obtain ⟨_, _, rfl⟩ := e2; simp [PyData.eqv]; done)
  | .tup ds, v, a, b, n1, n2, e1, e2 => by
    simp only [toP, Option.map_eq_some_iff] at e1
    obtain ⟨ps, h1, rfl⟩ := e1
    cases v with
    | tup es =>
      simp only [toP, Option.map_eq_some_iff] at e2
      obtain ⟨qs, h2, rfl⟩ := e2
      simp only [nb] at n1 n2
      simp only [PyData.eqv]
      rw [eqvs_iff ds es ps qs n1 n2 h1 h2]
      exact ⟨fun h => by rw [h], fun h => by injection h⟩
    | lst es =>
      simp only [toP, Option.map_eq_some_iff] at e2
      obtain ⟨qs, h2, rfl⟩ := e2
      simp [PyData.eqv]
    | non => simp only [toP] at e2; cases e2; simp [PyData.eqv]
    | int j => simp only [toP] at e2; cases e2; simp [PyData.eqv]
    | str j => simp only [toP] at e2; cases e2; simp [PyData.eqv]
    | _ => cases n2
  | .lst ds, v, a, b, n1, n2, e1, e2 => by
    simp only [toP, Option.map_eq_some_iff] at e1
    obtain ⟨ps, h1, rfl⟩ := e1
    cases v with
    | lst es =>
      simp only [toP, Option.map_eq_some_iff] at e2
      obtain ⟨qs, h2, rfl⟩ := e2
      simp only [nb] at n1 n2
      simp only [PyData.eqv]
      rw [eqvs_iff ds es ps qs n1 n2 h1 h2]
      exact ⟨fun h => by rw [h], fun h => by injection h⟩
    | tup es =>
      simp only [toP, Option.map_eq_some_iff] at e2
      obtain ⟨qs, h2, rfl⟩ := e2
      simp [PyData.eqv]
    | non => simp only [toP] at e2; cases e2; simp [PyData.eqv]
    | int j => simp only [toP] at e2; cases e2; simp [PyData.eqv]
    | str j => simp only [toP] at e2; cases e2; simp [PyData.eqv]
    | _ => cases n2
  | .bl _, v, a, b, n1, n2, e1, e2 => by cases n1
  | .scr _, v, a, b, n1, n2, e1, e2 => by cases n1
  | .dct _, v, a, b, n1, n2, e1, e2 => by cases n1
  | .ins _ _, v, a, b, n1, n2, e1, e2 => by cases n1
  | .ref _, v, a, b, n1, n2, e1, e2 => by cases n1
  | .exn _ _ _, v, a, b, n1, n2, e1, e2 => by cases n1
theorem eqvs_iff : ∀ (us vs : List D) (as bs : List PyData), nbs us = true → nbs vs = true → toPs us = some as → toPs vs = some bs → (PyData.eqvAll as bs = true ↔ us = vs)
  | [], vs, as, bs, n1, n2, e1, e2 => by
    simp only [toPs] at e1
    cases e1
    cases vs with
    | nil => simp only [toPs] at e2; cases e2; simp [PyData.eqvAll]
    | cons v r =>
      simp only [toPs] at e2
      cases bs with
      | nil =>
        exfalso
        cases h : toP v <;> rw [h] at e2 <;> cases h2 : toPs r <;> rw [h2] at e2 <;> simp at e2
      | cons b bs => simp [PyData.eqvAll]
  | u :: us, vs, as, bs, n1, n2, e1, e2 => by
    simp only [nbs, Bool.and_eq_true] at n1
    simp only [toPs] at e1
    cases h : toP u with
    | none => rw [h] at e1; cases e1
    | some a =>
      cases h2 : toPs us with
      | none => rw [h, h2] at e1; cases e1
      | some as' =>
        rw [h, h2] at e1
        simp only [Option.bind_some, Option.map_some, Option.some.injEq] at e1
        subst e1
        cases vs with
        | nil => simp only [toPs] at e2; cases e2; simp [PyData.eqvAll]
        | cons v r =>
          simp only [nbs, Bool.and_eq_true] at n2
          simp only [toPs] at e2
          cases h3 : toP v with
          | none => rw [h3] at e2; cases e2
          | some b =>
            cases h4 : toPs r with
            | none => rw [h3, h4] at e2; cases e2
            | some bs' =>
              rw [h3, h4] at e2
              simp only [Option.bind_some, Option.map_some, Option.some.injEq] at e2
              subst e2
              simp only [PyData.eqvAll, Bool.and_eq_true]
              rw [eqv_iff u v a b n1.1 n2.1 h h3, eqvs_iff us r as' bs' n1.2 n2.2 h2 h4]
              exact ⟨fun ⟨p, q⟩ => by rw [p, q], fun e => by injection e with p q; exact ⟨p, q⟩⟩
end
/-- data that == takes -/
structure Dat (u : D) (k : Nat) : Prop where
  ex : ∃ p, toP u = some p ∧ PyData.canLay0 p = true ∧ p.depth ≤ k
  nb : nb u = true
theorem Dat.mono {u : D} {k n : Nat} (d : Dat u k) (h : k ≤ n) : Dat u n := by
  obtain ⟨⟨p, e, l, dp⟩, z⟩ := d
  exact ⟨⟨p, e, l, by omega⟩, z⟩
theorem dat_non : Dat .non 0 := ⟨⟨.none, by simp only [toP], rfl, by decide⟩, by simp only [nb]⟩
theorem dat_int {i : Int} : Dat (.int i) 0 := ⟨⟨.int i, by simp only [toP], rfl, by simp only [PyData.depth]; exact Nat.le_refl _⟩, by simp only [nb]⟩
theorem dat_str {x : Str} (h : PyData.canLay0 (.str x) = true) : Dat (.str x) 0 := ⟨⟨.str x, by simp only [toP], h, by simp only [PyData.depth]; exact Nat.le_refl _⟩, by simp only [nb]⟩
theorem dat_nm {x : Str} (h : NameOk x) : Dat (.str x) 0 := dat_str (by simp only [PyData.canLay0, strOk_nm h])
theorem dat_all {k : Nat} : ∀ ds : List D, (∀ d ∈ ds, Dat d k) → ∃ ps, toPs ds = some ps ∧ PyData.canLayAll0 ps = true ∧ PyData.depthAll ps ≤ k ∧ nbs ds = true
  | [], _ => ⟨[], by simp only [toPs], rfl, by simp only [PyData.depthAll]; exact Nat.zero_le _, by simp only [nbs]⟩
  | d :: r, h => by
    obtain ⟨ps, e, l, dp, n⟩ := dat_all r fun x hx => h x (List.mem_cons_of_mem _ hx)
    obtain ⟨⟨p, e1, l1, d1⟩, n1⟩ := h d List.mem_cons_self
    refine ⟨p :: ps, by simp only [toPs, e1, e, Option.bind_some, Option.map_some], by simp only [PyData.canLayAll0, l1, l, Bool.and_self], ?_, by simp only [nbs, n1, n, Bool.and_self]⟩
    simp only [PyData.depthAll]
    omega
theorem dat_tup {k : Nat} {ds : List D} (h : ∀ d ∈ ds, Dat d k) : Dat (.tup ds) (k + 1) := by
  obtain ⟨ps, e, l, dp, n⟩ := dat_all ds h
  exact ⟨⟨.tuple ps, by simp only [toP, e, Option.map_some], by simp only [PyData.canLay0, l], by simp only [PyData.depth]; omega⟩, by simp only [nb, n]⟩
theorem dat_lst {k : Nat} {ds : List D} (h : ∀ d ∈ ds, Dat d k) : Dat (.lst ds) (k + 1) := by
  obtain ⟨ps, e, l, dp, n⟩ := dat_all ds h
  exact ⟨⟨.list ps, by simp only [toP, e, Option.map_some], by simp only [PyData.canLay0, l], by simp only [PyData.depth]; omega⟩, by simp only [nb, n]⟩
theorem datE_dat {u v : D} {b : Bool} (hu : Dat u 60) (hv : Dat v 60) (e : b = true ↔ u = v) : datE u v = some b := by
  obtain ⟨⟨p, e1, l1, d1⟩, n1⟩ := hu
  obtain ⟨⟨q, e2, l2, d2⟩, n2⟩ := hv
  unfold datE
  rw [e1, e2]
  dsimp only
  rw [if_pos ⟨Bool.and_eq_true_iff.mpr ⟨l1, decide_eq_true (by omega)⟩, Bool.and_eq_true_iff.mpr ⟨l2, decide_eq_true (by omega)⟩⟩]
  have := eqv_iff u v p q n1 n2 e1 e2
  rw [← e] at this
  congr 1
  exact Bool.eq_iff_iff.mpr this
theorem eqD_dat {u v : D} {b : Bool} {h : Hs} (hu : Dat u 60) (hv : Dat v 60) (e : b = true ↔ u = v) : eqD u v h = some b := by
  have k := datE_dat hu hv e
  unfold eqD
  have n1 := hu.nb
  have n2 := hv.nb
  have ph : ∀ d : D, nb d = true → toPh d h = toP d := by
    intro d hd
    cases d <;> first | rfl | cases hd
  cases hs : scE u v with
  | some c =>
    dsimp only
    have : c = b := by
      unfold scE at hs
      split at hs <;> first
        | (cases hs; done)
        | (cases hs; exact Bool.eq_iff_iff.mpr (by rw [e]; simp))
        | (exfalso; cases n1; done)
        | (exfalso; cases n2; done)
    rw [this]
  | none =>
    dsimp only
    rw [ph u n1, ph v n2]
    exact k
theorem p_eqDat {u v : D} {b : Bool} {h : Hs} {E : D → Hs → Prop} {Q : D → Hs → Prop} (hu : Dat u 60) (hv : Dat v 60) (e : b = true ↔ u = v) (q : Q (.bl b) h) : (gEq u v h).xp E Q := by
  show R.xp (match eqD u v h with | some b => R.ok (D.bl b) h | none => .no) E Q
  rw [eqD_dat hu hv e]
  exact q
theorem p_neDat {u v : D} {b : Bool} {h : Hs} {E : D → Hs → Prop} {Q : D → Hs → Prop} (hu : Dat u 60) (hv : Dat v 60) (e : b = true ↔ u = v) (q : Q (.bl (!b)) h) : (gNe u v h).xp E Q := by
  show R.xp (match eqD u v h with | some b => R.ok (D.bl (!b)) h | none => .no) E Q
  rw [eqD_dat hu hv e]
  exact q
/-! ### own == -/
theorem datO_dat {cs : List Str} {t : Tbl} {h : Hs} {u v : D} (n2 : nb v = true) : datO cs t h u v = datE u v := by
  unfold datO
  cases v <;> first | rfl | cases n2
theorem eqA_dat {cs : List Str} {t : Tbl} {h : Hs} {u v : D} {b : Bool} (hu : Dat u 60) (hv : Dat v 60) (e : b = true ↔ u = v) : eqA cs t h u v = some b := by
  have k := datE_dat hu hv e
  have n1 := hu.nb
  have n2 := hv.nb
  cases u with
  | non => simp only [eqA]; rw [datO_dat n2]; exact k
  | int i => simp only [eqA]; rw [datO_dat n2]; exact k
  | str x =>
    simp only [eqA]
    cases v <;> first
      | (cases n2; done)
      | (dsimp only; rw [datO_dat n2]; exact k)
  | tup ds =>
    simp only [eqA]
    cases v <;> first
      | (cases n2; done)
      | (dsimp only; rw [datO_dat n2]; exact k)
      | (dsimp only; rw [k])
  | lst ds =>
    simp only [eqA]
    cases v <;> first
      | (cases n2; done)
      | (dsimp only; rw [datO_dat n2]; exact k)
      | (dsimp only; rw [k])
  | _ => cases n1
theorem p_eqA {cs : List Str} {t : Tbl} {u v : D} {b : Bool} {h : Hs} {E : D → Hs → Prop} {Q : D → Hs → Prop} (e : eqA cs t h u v = some b) (l : dep u ≤ 9) (q : Q (.bl b) h) : (gEqA cs t u v h).xp E Q := by
  unfold gEqA
  rw [e]
  dsimp only
  rw [if_pos l]
  exact q
theorem p_neA {cs : List Str} {t : Tbl} {u v : D} {b : Bool} {h : Hs} {E : D → Hs → Prop} {Q : D → Hs → Prop} (e : eqA cs t h u v = some b) (l : dep u ≤ 9) (q : Q (.bl (!b)) h) : (gNeA cs t u v h).xp E Q := by
  unfold gNeA
  rw [e]
  dsimp only
  rw [if_pos l]
  exact q
theorem p_inA {cs : List Str} {t : Tbl} {u : D} {ds : List D} {b : Bool} {h : Hs} {E : D → Hs → Prop} {Q : D → Hs → Prop} (neg : Bool) (e : anyA cs t h u ds = some b) (l : deps ds ≤ 9) (q : Q (.bl (if neg then !b else b)) h) : (gInA cs t neg u (.lst ds) h).xp E Q := by
  unfold gInA
  show R.xp (match anyA cs t h u ds with | some b => _ | none => _) E Q
  rw [e]
  dsimp only
  rw [if_pos l]
  exact q
/-- lists, item by item -/
theorem eqsA_map {α : Type} [DecidableEq α] {cs : List Str} {t : Tbl} {h : Hs} {f : α → D} : ∀ (l m : List α), (∀ a ∈ l, ∀ b ∈ m, eqA cs t h (f a) (f b) = some (decide (a = b))) → (∀ a ∈ l, ∀ b ∈ m, a ≠ b → dst (f a) (f b) = true) → eqsA cs t h (l.map f) (m.map f) = some (decide (l = m))
  | [], m, _, _ => by
    simp only [List.map_nil, eqsA]
    cases m <;> simp
  | a :: l, [], _, _ => by simp only [List.map_nil, List.map_cons, eqsA]; simp
  | a :: l, b :: m, k1, k2 => by
    simp only [List.map_cons, eqsA]
    rw [k1 a List.mem_cons_self b List.mem_cons_self]
    by_cases e : a = b
    · subst e
      rw [decide_eq_true rfl]
      dsimp only
      rw [eqsA_map l m (fun x hx y hy => k1 x (List.mem_cons_of_mem _ hx) y (List.mem_cons_of_mem _ hy)) fun x hx y hy => k2 x (List.mem_cons_of_mem _ hx) y (List.mem_cons_of_mem _ hy)]
      simp
    · rw [decide_eq_false e]
      dsimp only
      rw [if_pos (k2 a List.mem_cons_self b List.mem_cons_self e)]
      simp [e]
theorem dsts_map {α : Type} {f : α → D} : ∀ (l m : List α), (∀ a ∈ l, ∀ b ∈ m, a ≠ b → dst (f a) (f b) = true) → l ≠ m → dsts (l.map f) (m.map f) = true
  | [], m, _, n => by
    cases m with
    | nil => exact absurd rfl n
    | cons b m => simp [dsts]
  | a :: l, [], _, _ => by simp [dsts]
  | a :: l, b :: m, k, n => by
    simp only [List.map_cons, dsts, Bool.or_eq_true]
    by_cases e : a = b
    · refine .inr (dsts_map l m (fun x hx y hy => k x (List.mem_cons_of_mem _ hx) y (List.mem_cons_of_mem _ hy)) fun z => n (by rw [e, z]))
    · exact .inl (k a List.mem_cons_self b List.mem_cons_self e)

section
local macro_rules
  | `(tactic| done) => `(tactic| first
    | with_reducible refine p_ixBl ?_
    | with_reducible refine p_ixT0 ?_
    | with_reducible refine p_ixT1 ?_
    | with_reducible refine p_ixT2 ?_
    | with_reducible refine p_ixT3 ?_
    | with_reducible refine p_ixT4 ?_
    | with_reducible refine p_ixT5 ?_
    | with_reducible refine p_ixL0 ?_
    | with_reducible refine p_ixL1 ?_
    | with_reducible refine p_ixL2 ?_
    | with_reducible refine p_eqSI false (by decide +kernel) ?_
    | with_reducible refine p_eqSI true (by decide +kernel) ?_
    | with_reducible refine p_eqSS ?_
    | with_reducible refine p_neS ?_
    | with_reducible refine w_maxD ?_
    | with_reducible refine w_slS ?_
    | with_reducible refine w_fmt ?_
    | with_reducible refine p_listL ?_)
/-- repr tells t -/
def Shn (tb : Tbl) (d : D) (t : Str) : Prop := ∀ h : Hs, shD tb h d = some t
theorem Shn.eq {tb : Tbl} {d : D} {t t' : Str} (a : Shn tb d t) (b : Shn tb d t') : t = t' := by
  have := (a []).symm.trans (b [])
  injection this
structure Sho (tb : Tbl) (d : D) (n k : Nat) : Prop where
  ex : ∃ t, Shn tb d t ∧ t.length ≤ n
  dp : dep d ≤ k
  nr : ∀ i, d ≠ .ref i
theorem Sho.mono {tb : Tbl} {d : D} {n k n' k' : Nat} (s : Sho tb d n k) (h1 : n ≤ n') (h2 : k ≤ k') : Sho tb d n' k' := by
  obtain ⟨⟨t, e, l⟩, dp, nr⟩ := s
  exact ⟨⟨t, e, by omega⟩, by omega, nr⟩
theorem p_repr {tb : Tbl} {d : D} {n k : Nat} {h : Hs} {E : D → Hs → Prop} {Q : D → Hs → Prop} (s : Sho tb d n k) (hn : n ≤ 100000) (hk : k ≤ 10) (q : ∀ t, Shn tb d t → Q (.str t) h) : (gReprO tb [d] h).xp E Q := by
  obtain ⟨⟨t, e, l⟩, dp, nr⟩ := s
  have e2 := e h
  unfold gReprO
  split
  · rename_i i heq
    injection heq with heq
    exact (nr i heq).elim
  · rename_i d' _ heq
    injection heq with heq
    subst heq
    rw [e2]
    dsimp only
    rw [if_pos ⟨by rw [sizeLine_eq]; omega, by omega⟩]
    exact q t e
  · rename_i h1 h2
    exact (h2 d rfl).elim
section
variable {tb : Tbl}
theorem sho_non : Sho tb .non 4 0 := ⟨⟨"None", fun h => by simp only [shD], by decide⟩, by simp only [dep]; exact Nat.le_refl _, fun i e => by cases e⟩
theorem sho_bl (b : Bool) : Sho tb (.bl b) 5 0 := ⟨⟨if b then "True" else "False", fun h => by simp only [shD], by cases b <;> decide⟩, by simp only [dep]; exact Nat.le_refl _, fun i e => by cases e⟩
theorem sho_int {i : Int} {k : Nat} (hk : 0 < k) (h : i.natAbs < 10 ^ k) (hl : k ≤ 500) : Sho tb (.int i) (k + 1) 0 := by
  have l : i.natAbs.log2 < 1920 := by
    by_cases hz : i.natAbs = 0
    · rw [hz]; decide
    · refine (Nat.log2_lt hz).mpr (Nat.lt_of_lt_of_le h ?_)
      calc 10 ^ k ≤ 10 ^ 500 := Nat.pow_le_pow_right (by decide) hl
        _ ≤ 2 ^ 1920 := by decide +kernel
  refine ⟨⟨Str.ofString (toString i), fun h => ?_, ?_⟩, by simp only [dep]; exact Nat.le_refl _, fun i e => by cases e⟩
  · simp only [shD]; rw [if_pos l]
  · rw [PySem.ofString_length]; exact int_text_length_le10 hk h
theorem sho_str {x : Str} (hx : ∀ c ∈ x.cps.toList, c < 16 ^ 8) (hl : x.length ≤ 1000) : Sho tb (.str x) (10 * x.length + 2) 0 := by
  have l := StrLaws.reprText_len x hx
  refine ⟨⟨reprText x, fun h => ?_, l⟩, by simp only [dep]; exact Nat.le_refl _, fun i e => by cases e⟩
  simp only [shD]; rw [if_pos (by rw [sizeLine_eq]; omega)]
theorem sho_lit {x : Str} (h : Nat.ble (reprText x).length 40 = true) : Sho tb (.str x) 40 0 := by
  have l := Nat.le_of_ble_eq_true h
  refine ⟨⟨reprText x, fun h => ?_, l⟩, by simp only [dep]; exact Nat.le_refl _, fun i e => by cases e⟩
  simp only [shD]; rw [if_pos (by rw [sizeLine_eq]; omega)]
theorem sho_dct0 : Sho tb (.dct []) 2 0 := ⟨⟨"{}", fun h => by simp only [shD]; rfl, by decide⟩, by simp only [dep]; exact Nat.le_refl _, fun i e => by cases e⟩
theorem textFrom_ub : ∀ (ts : List Str) (k : Nat) (acc : Str), (textFrom k acc ts).length ≤ acc.length + piled ts
  | [], k, acc => Nat.le_add_right _ _
  | t :: r, k, acc => by
    have ih := textFrom_ub r (k + 1) (acc ++ (if k > 0 then ", " else "" : String) ++ t)
    rw [piled_cons]
    have e : (acc ++ (if k > 0 then ", " else "" : String) ++ t).length ≤ acc.length + 2 + t.length := by
      rw [strLen_append, strLen_append]
      have : (Str.ofString (if k > 0 then ", " else "" : String)).length ≤ 2 := by split <;> decide
      omega
    show (textFrom (k + 1) (acc ++ (if k > 0 then ", " else "" : String) ++ t) r).length ≤ _
    omega
theorem piled_ub {n : Nat} : ∀ (ts : List Str), (∀ t ∈ ts, t.length ≤ n) → piled ts ≤ ts.length * (n + 2)
  | [], _ => by simp [piled]
  | t :: r, h => by
    rw [piled_cons, List.length_cons, Nat.add_mul]
    have := piled_ub r fun x hx => h x (List.mem_cons_of_mem _ hx)
    have := h t List.mem_cons_self
    omega
theorem listText_ub {ts : List Str} : (listText ts).length ≤ 2 + piled ts := by
  show (textFrom 0 "[" ts ++ ("]" : String)).length ≤ _
  rw [strLen_append]
  have := textFrom_ub ts 0 "["
  have e1 : (Str.ofString "[").length = 1 := by decide
  have e2 : (Str.ofString "]").length = 1 := by decide
  omega
theorem tupleText_ub {ts : List Str} : (tupleText ts).length ≤ 3 + piled ts := by
  unfold tupleText
  rw [strLen_append, strLen_append]
  have e1 : (Str.ofString "(").length = 1 := by decide
  have e3 : (Str.ofString (if (ts.length == 1) = true then ",)" else ")")).length ≤ 2 := by split <;> decide
  have e2 : (Str.join ", " ts).length ≤ piled ts := by
    by_cases h : ts = []
    · subst h; decide
    · have := join_length_add ts h; omega
  omega
theorem shos {n k : Nat} : ∀ (ds : List D), (∀ d ∈ ds, Sho tb d n k) → (∃ ts, (∀ h, shDs tb h ds = some ts) ∧ ts.length = ds.length ∧ ∀ t ∈ ts, t.length ≤ n) ∧ deps ds ≤ k
  | [], _ => ⟨⟨[], fun h => by simp only [shDs], rfl, by simp⟩, by simp only [deps]; exact Nat.zero_le _⟩
  | d :: r, hd => by
    obtain ⟨⟨ts, e, l, b⟩, dp⟩ := shos r fun x hx => hd x (List.mem_cons_of_mem _ hx)
    obtain ⟨⟨t, e1, l1⟩, dp1, _⟩ := hd d List.mem_cons_self
    refine ⟨⟨t :: ts, fun h => by simp only [shDs]; rw [e1 h, e h], by simp [l], fun x hx => ?_⟩, by simp only [deps]; omega⟩
    rcases List.mem_cons.mp hx with rfl | hx
    · exact l1
    · exact b x hx
theorem sho_tup {n k : Nat} {ds : List D} (hd : ∀ d ∈ ds, Sho tb d n k) : Sho tb (.tup ds) (ds.length * (n + 2) + 3) (k + 1) := by
  obtain ⟨⟨ts, e, l, b⟩, dp⟩ := shos ds hd
  refine ⟨⟨tupleText ts, fun h => by simp only [shD]; rw [e h]; rfl, ?_⟩, by simp only [dep]; omega, fun i e => by cases e⟩
  have := tupleText_ub (ts := ts)
  have := piled_ub ts b
  rw [l] at this
  omega
theorem sho_lst {n k : Nat} {ds : List D} (hd : ∀ d ∈ ds, Sho tb d n k) : Sho tb (.lst ds) (ds.length * (n + 2) + 3) (k + 1) := by
  obtain ⟨⟨ts, e, l, b⟩, dp⟩ := shos ds hd
  refine ⟨⟨listText ts, fun h => by simp only [shD]; rw [e h]; rfl, ?_⟩, by simp only [dep]; omega, fun i e => by cases e⟩
  have := listText_ub (ts := ts)
  have := piled_ub ts b
  rw [l] at this
  omega
theorem sho_ins {c : Str} {fs : List (Str × D)} {t : Str} {n : Nat} (e : ∀ h, ownT tb h c fs = some t) (l : t.length ≤ n) : Sho tb (.ins c fs) n 0 := ⟨⟨t, fun h => by simp only [shD]; exact e h, l⟩, by simp only [dep]; exact Nat.le_refl _, fun i e => by cases e⟩
theorem ownT_of {h : Hs} {c : Str} {fs : List (Str × D)} {f : Fs} {t : Str} (e1 : tb.lookup c = some f) (w : (f [.ins c fs] h).xp noE fun d h' => d = .str t ∧ h' = h) : ownT tb h c fs = some t := by
  obtain ⟨d, h', e, rfl, rfl⟩ := w.get
  unfold ownT
  rw [e1]
  dsimp only
  rw [e]
  simp
end

end
/-- what a call tells is frozen: a new list over old things -/
theorem trim_ok {h g t : Hs} {L : Nat} {ds : List D} {Q : D → Prop} (l : g.length = h.length) (hl : h.length ≤ L) (e : (g ++ t)[L]? = some (.lst ds)) (b : belows h.length ds = true) (o : OldOk h g) (q : Q (.lst ds)) :
    ∃ d', frz (g ++ t) h.length (.ref L) = some d' ∧ OldOk h (g ++ t) ∧ Q d' := by
  refine ⟨.lst ds, ?_, ?_, q⟩
  · simp only [frz, if_neg (Nat.not_lt.mpr hl), e, b, if_true]
  · intro i hi
    have := o i hi
    rwa [List.getElem?_append_left (by omega)]
theorem p_allC {α : Type} {l : List α} {h : Hs} {E : D → Hs → Prop} {Q : D → Hs → Prop} (q : Q (.bl true) h) : (gAll [.lst (l.map fun _ => D.bl true)] h).xp E Q := by
  have e : asBls (.lst (l.map fun _ => D.bl true)) h = some (l.map fun _ => true) := by
    show blsD (l.map fun _ => D.bl true) = _
    induction l with
    | nil => rfl
    | cons a l ih => simp [blsD, ih]
  show R.xp (match asBls (.lst (l.map fun _ => D.bl true)) h with | some ns => R.ok (D.bl (ns.all id)) h | none => .no) E Q
  rw [e]
  have : (l.map fun _ => true).all id = true := by simp
  dsimp only
  rw [this]
  exact q
theorem pick_mem {α : Type} {idx : List Nat} {ds : List α} {d : α} (h : d ∈ pick idx ds) : d ∈ ds := by
  unfold pick at h
  obtain ⟨i, _, e⟩ := List.mem_filterMap.mp h
  exact List.mem_of_getElem? e
theorem in_strs {xs : List Str} {x : Str} {H : Hs} : inD (.str x) (.lst (xs.map D.str)) H = some (decide (x ∈ xs)) := by
  have f : (xs.map D.str).all flatD = true := by
    rw [List.all_eq_true]
    intro d hd
    obtain ⟨y, _, rfl⟩ := List.mem_map.mp hd
    rfl
  have v : ((xs.map D.str).any fun y => eqF y (.str x)) = decide (x ∈ xs) := by
    rw [Bool.eq_iff_iff, decide_eq_true_eq, List.any_eq_true]
    constructor
    · rintro ⟨d, hd, hv⟩
      obtain ⟨y, hy, rfl⟩ := List.mem_map.mp hd
      have hv : (y == x) = true := hv
      rw [← beq_iff_eq.mp hv]; exact hy
    · intro hx
      exact ⟨.str x, List.mem_map.mpr ⟨x, hx, rfl⟩, beq_self_eq_true x⟩
  show (if flatD (.str x) = true ∧ (xs.map D.str).all flatD = true then some ((xs.map D.str).any fun y => eqF y (.str x)) else _) = _
  rw [if_pos ⟨rfl, f⟩, v]
theorem p_inL {xs : List Str} {x : Str} {H : Hs} {E : D → Hs → Prop} {Q : D → Hs → Prop} (q : Q (.bl (decide (x ∈ xs))) H) : (gIn false (.str x) (.lst (xs.map D.str)) H).xp E Q := by
  show R.xp (match inD (.str x) (.lst (xs.map D.str)) H with | some b => R.ok (D.bl (if false then !b else b)) H | none => .no) E Q
  rw [in_strs]
  exact q
theorem p_notInL {xs : List Str} {x : Str} {H : Hs} {E : D → Hs → Prop} {Q : D → Hs → Prop} (q : Q (.bl (!decide (x ∈ xs))) H) : (gIn true (.str x) (.lst (xs.map D.str)) H).xp E Q := by
  show R.xp (match inD (.str x) (.lst (xs.map D.str)) H with | some b => R.ok (D.bl (if true then !b else b)) H | none => .no) E Q
  rw [in_strs]
  exact q
theorem p_eqR {u : D} {a : PyData} {h : Hs} {E : D → Hs → Prop} {Q : D → Hs → Prop} (e0 : scE u u = none) (e1 : toPh u h = some a) (s1 : SeqAt.shaped a = true) (q : Q (.bl true) h) : (gEq u u h).xp E Q := by
  have e : eqD u u h = some true := by
    unfold eqD
    rw [e0, e1]
    simp only [s1, and_self, if_true]
    rw [SeqAt.eqv_refl _ (Bool.and_eq_true_iff.mp s1).1]
  show R.xp (match eqD u u h with | some b => R.ok (D.bl b) h | none => .no) E Q
  rw [e]
  exact q
theorem pick_len {α : Type} {k : Int} {ds : List α} (k0 : 1 ≤ k) : (pick (idxS k ds.length) ds).length ≤ ds.length := by
  unfold pick idxS
  refine Nat.le_trans (List.length_filterMap_le _ _) (sliceRange_length_le _ _ _ _ (fun hc => ?_) fun hc => ?_)
  · simp only [sliceBounds] at hc ⊢
    simp only [hc, if_true]
    constructor
    · simp
    · simp
  · simp only [sliceBounds] at hc
    dsimp only [Option.getD] at hc
    omega
theorem asInts_map {α : Type} {f : α → Int} {l : List α} {h : Hs} : asInts (.lst (l.map fun a => .int (f a))) h = some (l.map f) := by
  show intsD (l.map fun a => .int (f a)) = _
  induction l with
  | nil => rfl
  | cons a l ih => simp [intsD, ih]
theorem frzs_cons {h : Hs} {n : Nat} {d d' : D} {r r' : List D} (e1 : frz h n d = some d') (e2 : frzs h n r = some r') : frzs h n (d :: r) = some (d' :: r') := by rw [frzs, e1, e2]
theorem frz_tup {h : Hs} {n : Nat} {r r' : List D} (e2 : frzs h n r = some r') : frz h n (.tup r) = some (.tup r') := by rw [frz, e2]; rfl
theorem frz_tup2 {h : Hs} {n : Nat} {a a' b b' : D} (e1 : frz h n a = some a') (e2 : frz h n b = some b') : frz h n (.tup [a, b]) = some (.tup [a', b']) := frz_tup (frzs_cons e1 (frzs_cons e2 (by rw [frzs])))

theorem w_meth {m c : Str} {f : Fs} {n : Nat} {gD : List D → List D → List D} {fo : SE} {fa : SA} {ρ : Ev} {h : Hs} {E : D → Hs → Prop} {Q : D → Hs → Prop} (q : (fo ρ h).xp E fun d h1 => ∃ fs, asIns d h1 = some (c, fs) ∧ fs.lookup m = none ∧ (fa ρ h1).xp E fun ds h2 => ds.length = n ∧ (f (gD (d :: ds) []) h2).xp E Q) : (sMeth (m := m) c f n gD fo fa ρ h).xp E Q := w_bind (q.mono fun d h1 ⟨fs, e1, e2, z⟩ => by
  rw [e1]
  dsimp only
  rw [if_pos ⟨rfl, e2⟩]
  exact w_bind (z.mono fun ds h2 ⟨e, z⟩ => by rw [if_pos e]; exact z))
theorem p_anyB {bs : List Bool} {h : Hs} {E : D → Hs → Prop} {Q : D → Hs → Prop} (q : Q (.bl (bs.any id)) h) : (gAny [.lst (bs.map D.bl)] h).xp E Q := by
  have e : asBls (.lst (bs.map D.bl)) h = some bs := blsD_map bs
  show R.xp (match asBls (.lst (bs.map D.bl)) h with | some ns => R.ok (D.bl (ns.any id)) h | none => .no) E Q
  rw [e]
  exact q
theorem w_meth0 {m c : Str} {f : Fs} {gD : List D → List D → List D} {fo : SE} {ρ : Ev} {h : Hs} {E : D → Hs → Prop} {Q : D → Hs → Prop} (q : (fo ρ h).xp E fun d h1 => ∃ fs, asIns d h1 = some (c, fs) ∧ fs.lookup m = none ∧ (f (gD [d] []) h1).xp E Q) : (sMeth0 m c f gD fo ρ h).xp E Q := w_bind (q.mono fun d h1 ⟨fs, e1, e2, z⟩ => by
  rw [e1]
  dsimp only
  rw [if_pos ⟨rfl, e2⟩]
  exact z)
theorem w_methK {m c : Str} {f : Fs} {j : Nat} {gD : List D → List D → List D} {fo : SE} {fk : SA} {ρ : Ev} {h : Hs} {E : D → Hs → Prop} {Q : D → Hs → Prop} (q : (fo ρ h).xp E fun d h1 => ∃ fs, asIns d h1 = some (c, fs) ∧ fs.lookup m = none ∧ (fk ρ h1).xp E fun es h2 => es.length = j ∧ (f (gD [d] es) h2).xp E Q) : (sMethK (m := m) c f j gD fo fk ρ h).xp E Q := w_bind (q.mono fun d h1 ⟨fs, e1, e2, z⟩ => by
  rw [e1]
  dsimp only
  rw [if_pos ⟨rfl, e2⟩]
  exact w_bind (z.mono fun es h2 ⟨e, z⟩ => by rw [if_pos e]; exact z))
theorem and_len {α : Type} {l : List α} {n : Nat} {B : Prop} (e : l.length = n) (b : B) : l.length = n ∧ B := ⟨e, b⟩
theorem and_lk {fs : List (Str × D)} {m : Str} {B : Prop} (e : fs.lookup m = none) (b : B) : fs.lookup m = none ∧ B := ⟨e, b⟩

section
local macro_rules
  | `(tactic| done) => `(tactic| first
    | with_reducible refine p_ixBl ?_
    | with_reducible refine p_ixT0 ?_
    | with_reducible refine p_ixT1 ?_
    | with_reducible refine p_ixT2 ?_
    | with_reducible refine p_ixT3 ?_
    | with_reducible refine p_ixT4 ?_
    | with_reducible refine p_ixT5 ?_
    | with_reducible refine p_ixL0 ?_
    | with_reducible refine p_ixL1 ?_
    | with_reducible refine p_ixL2 ?_
    | with_reducible refine p_eqSI false (by decide +kernel) ?_
    | with_reducible refine p_eqSI true (by decide +kernel) ?_
    | with_reducible refine p_eqSS ?_
    | with_reducible refine p_neS ?_
    | with_reducible refine w_maxD ?_
    | with_reducible refine w_slS ?_
    | with_reducible refine w_fmt ?_
    | with_reducible refine p_listL ?_)
local macro_rules
  | `(tactic| done) => `(tactic| with_reducible refine w_meth ?_)
local macro_rules
  | `(tactic| done) => `(tactic| with_reducible refine w_meth0 ?_)
local macro_rules
  | `(tactic| done) => `(tactic| with_reducible refine w_methK ?_)
local macro_rules
  | `(tactic| done) => `(tactic| ((with_reducible refine and_len ?_ ?_); rfl))
local macro_rules
  | `(tactic| done) => `(tactic| ((with_reducible refine and_lk ?_ ?_); rfl))
def lies (d : Int) (t : Hd) : Bool := decide (t.2.1 < d) && decide (d < t.2.1 + t.2.2)
def atD (hs : List Hd) (d : Int) : List Str := sortS (uniqX ((hs.filter (lies d)).map (·.1)))
def atT (hs : List Hd) (d : Int) : D := .tup ((atD hs d).map D.str)
def tskD (x : Str) (c g : Int) (t : D) (hs : List Hd) : D := .ins "Task" (fldT (.str x) (.int c) (.int g) t (.tup (hs.map encH)))
theorem held_wp {x : Str} {c g d : Int} {t : D} {hs : List Hd} {h : Hs} {E : D → Hs → Prop} {Q : D → Hs → Prop} (l : hs.length ≤ 4) (d0 : 0 ≤ d) (d1 : d ≤ c) (q : Q (atT hs d) h) : (F_Task_held [tskD x c g t hs, .int d] h).xp E Q := by
  refine w_run ?_
  unfold f_Task_held tskD
  repeat focus done
  refine check_within_wp d0 d1 ?_
  repeat focus done
  refine w_sortSc encH (·.1) (lies d) ?_
  refine w_sq ?_
  repeat focus done
  refine ⟨hs, ⟨rfl, rfl⟩, by omega, fun ⟨n, b, s⟩ ha => ⟨_, rfl, ?_⟩, ?_⟩
  · dsimp only
    repeat focus done
    refine and_dec (fun e1 => ?_) (fun e1 => ?_)
    · repeat focus done
      refine ⟨⟨?_, rfl⟩, fun _ => ⟨rfl, rfl⟩⟩
      show decide (d < b + s) = (decide (b < d) && decide (d < b + s))
      rw [decide_eq_true e1, Bool.true_and]
    · refine ⟨_, rfl, ⟨?_, rfl⟩, fun _ => ⟨rfl, rfl⟩⟩
      show false = (decide (b < d) && decide (d < b + s))
      rw [decide_eq_false e1, Bool.false_and]
  repeat focus done
  exact q
theorem held_bad {x : Str} {c g : Int} {d t : D} {hs : List Hd} {h : Hs} {E : D → Hs → Prop} {Q : D → Hs → Prop} (ty : tyP CS d = true) (n : inRg 0 c d = false) (e : E (.ins "NoNumber" [("number", d)]) h) : (F_Task_held [tskD x c g t hs, d] h).xp E Q := by
  refine w_run ?_
  unfold f_Task_held tskD
  repeat focus done
  refine w_run ?_
  unfold f_check_within
  repeat focus done
  refine is_within_wp (tyP_ok ty) ?_
  rw [n]
  repeat focus done
  exact e
/-! the law's own look -/
theorem in_rng {i a b : Int} {H : Hs} : inD (.int i) (.lst (rngD a b)) H = some (decide (a ≤ i ∧ i < b)) := by
  have f : (rngD a b).all flatD = true := by
    rw [List.all_eq_true]
    intro d hd
    simp only [rngD, List.mem_map] at hd
    obtain ⟨y, _, rfl⟩ := hd
    rfl
  have v : ((rngD a b).any fun y => eqF y (.int i)) = decide (a ≤ i ∧ i < b) := by
    rw [Bool.eq_iff_iff, decide_eq_true_eq, List.any_eq_true]
    simp only [rngD, List.mem_map, List.mem_range]
    constructor
    · rintro ⟨d, ⟨y, hy, rfl⟩, hv⟩
      have hv : (a + (y : Int)) = i := by
        have hv : decide (a + (y : Int) = i) = true := hv
        exact of_decide_eq_true hv
      omega
    · rintro ⟨h1, h2⟩
      refine ⟨_, ⟨(i - a).toNat, by omega, rfl⟩, ?_⟩
      show decide (a + ((i - a).toNat : Int) = i) = true
      exact decide_eq_true (by omega)
  show (if flatD (.int i) = true ∧ (rngD a b).all flatD = true then some ((rngD a b).any fun y => eqF y (.int i)) else _) = _
  rw [if_pos ⟨rfl, f⟩, v]
theorem p_inRng {i a b : Int} {H : Hs} {E : D → Hs → Prop} {Q : D → Hs → Prop} (q : Q (.bl (decide (a ≤ i ∧ i < b))) H) : (gIn false (.int i) (.lst (rngD a b)) H).xp E Q := by
  show R.xp (match inD (.int i) (.lst (rngD a b)) H with | some b => R.ok (D.bl (if false then !b else b)) H | none => .no) E Q
  rw [in_rng]
  exact q
theorem notin_ref {n : Nat} {xs : List Str} {x : Str} {H : Hs} {E : D → Hs → Prop} {Q : D → Hs → Prop} (o : H[n]? = some (.lst (xs.map D.str))) (q : Q (.bl (!decide (x ∈ xs))) H) : (gIn true (.str x) (.ref n) H).xp E Q := by
  have e : asSq (.ref n) H = some (xs.map D.str) := by unfold asSq asLst; simp only [o]
  have f : (xs.map D.str).all flatD = true := by
    rw [List.all_eq_true]
    intro d hd
    obtain ⟨y, _, rfl⟩ := List.mem_map.mp hd
    rfl
  have v : ((xs.map D.str).any fun y => eqF y (.str x)) = decide (x ∈ xs) := by
    rw [Bool.eq_iff_iff, decide_eq_true_eq, List.any_eq_true]
    constructor
    · rintro ⟨d, hd, hv⟩
      obtain ⟨y, hy, rfl⟩ := List.mem_map.mp hd
      have hv : (y == x) = true := hv
      rw [← beq_iff_eq.mp hv]; exact hy
    · intro hx
      exact ⟨.str x, List.mem_map.mpr ⟨x, hx, rfl⟩, beq_self_eq_true x⟩
  show R.xp (match inD (.str x) (.ref n) H with | some b => R.ok (D.bl (if true then !b else b)) H | none => .no) E Q
  have ei : inD (.str x) (.ref n) H = some (decide (x ∈ xs)) := by
    unfold inD
    dsimp only
    rw [e]
    dsimp only
    rw [if_pos ⟨rfl, f⟩, v]
  rw [ei]
  exact q
theorem p_sortedR {n : Nat} {xs : List Str} {h : Hs} {E : D → Hs → Prop} {Q : D → Hs → Prop} (o : h[n]? = some (.lst (xs.map D.str))) (l : xs.length < 64) (q : Q (.lst ((sortS xs).map .str)) h) : (gSorted [.ref n] h).xp E Q := by
  have e : asStrsL (.ref n) h = some xs := by
    have e : asSqL (.ref n) h = some (xs.map D.str) := by unfold asSqL asLst; simp only [o]
    unfold asStrsL
    rw [e]
    exact strs_map xs
  show R.xp (match asStrsL (.ref n) h with | some xs => if xs.length < 64 then R.ok (D.lst ((sortS xs).map .str)) h else .no | none => .no) E Q
  rw [e]
  dsimp only
  rw [if_pos l]
  exact q
theorem addX_new {xs : List Str} {n : Str} (c : n ∉ xs) : [n].foldl addX xs = xs ++ [n] := by
  show addX xs n = _
  unfold addX
  rw [if_neg c]
theorem addX_old {xs : List Str} {n : Str} (c : n ∈ xs) : [n].foldl addX xs = xs := by
  show addX xs n = _
  unfold addX
  rw [if_pos c]
theorem due_at_wp {d : Int} {hs : List Hd} {h : Hs} {E : D → Hs → Prop} {Q : D → Hs → Prop} (o : HOk 99 hs) (q : ∀ t, Q (atT hs d) (h ++ t)) : (F__law_due_at [.tup (hs.map encH), .int d] h).xp E Q := by
  refine w_run ?_
  unfold f__law_due_at
  repeat focus done
  refine w_forI hs encH (fun ds ρ H => H = h ++ [.lst ((((ds.filter (lies d)).map (·.1)).foldl addX []).map D.str)] ∧ ∃ o3 o4 o5, ρ = [some (.tup (hs.map encH)), some (.int d), some (.ref h.length), o3, o4, o5]) ?_ ?_ ?_
  · repeat focus done
    exact ⟨rfl, none, none, none, rfl⟩
  · rintro ds ⟨n, b, s⟩ ts ρ H er ⟨rfl, o3, o4, o5, rfl⟩
    have am : ((n, b, s) : Hd) ∈ hs := by rw [er]; simp
    have b0 := o.b0 _ am
    have s0 := o.s0 _ am
    have e0 := o.e0 _ am
    dsimp only at b0 s0 e0
    refine ⟨_, rfl, ?_⟩
    repeat focus done
    dsimp only
    have fe : (ds ++ [((n, b, s) : Hd)]).filter (lies d) = ds.filter (lies d) ++ if lies d (n, b, s) = true then [(n, b, s)] else [] := by
      rw [List.filter_append, List.filter_cons, List.filter_nil]
    have lb : lies d (n, b, s) = decide (b + 1 ≤ d ∧ d < b + s) := by
      show (decide (b < d) && decide (d < b + s)) = _
      rw [Bool.eq_iff_iff, Bool.and_eq_true, decide_eq_true_eq, decide_eq_true_eq, decide_eq_true_eq]
      omega
    refine ⟨by unfold okRg; omega, ?_⟩
    refine p_inRng ?_
    rw [← lb]
    rw [fe]
    refine ⟨_, rfl, fun e => ?_, fun e => ?_⟩
    · rw [if_pos e, List.map_append, List.foldl_append]
      repeat focus done
      refine notin_ref (get_last rfl) ?_
      have xl : (((ds.filter (lies d)).map (·.1)).foldl addX []).length ≤ 4 := by
        refine Nat.le_trans (uniq_len ((ds.filter (lies d)).map (·.1))) ?_
        rw [List.length_map]
        refine Nat.le_trans (List.length_filter_le _ _) ?_
        have := o.len
        have := congrArg List.length er
        simp at this
        omega
      show ∃ b, _ ∧ _
      generalize ((ds.filter (lies d)).map (·.1)).foldl addX [] = xs at xl ⊢
      have ea : [((n, b, s) : Hd)].map (·.1) = [n] := rfl
      rw [ea]
      refine ⟨_, rfl, ?_⟩
      refine and_ndec (fun c => ?_) (fun c => ?_)
      · repeat focus done
        refine ⟨isL (get_last rfl), ?_⟩
        repeat focus done
        refine p_app (get_last rfl) (by simp; omega) ?_
        rw [set_last rfl, addX_new c]
        exact ⟨by simp, _, _, _, rfl⟩
      · repeat focus done
        rw [addX_old c]
        exact ⟨rfl, _, _, _, rfl⟩
    · rw [if_neg (by rw [e]; decide), List.append_nil]
      first
        | exact ⟨_, rfl, fun z => (nomatch z), fun _ => w_next ⟨rfl, _, _, _, rfl⟩⟩
        | (refine and_rf rfl ?_
           repeat focus done
           exact ⟨rfl, _, _, _, rfl⟩)
        | (repeat focus done
           exact ⟨rfl, _, _, _, rfl⟩)
  · rintro ρ H ⟨rfl, o3, o4, o5, rfl⟩
    repeat focus done
    have ul : (uniqX ((hs.filter (lies d)).map (·.1))).length ≤ 4 := by
      refine Nat.le_trans (uniq_len _) ?_
      rw [List.length_map]
      exact Nat.le_trans (List.length_filter_le _ _) o.len
    have e9 : ((hs.filter (lies d)).map (·.1)).foldl addX [] = uniqX ((hs.filter (lies d)).map (·.1)) := rfl
    rw [e9] 
    refine p_sortedR (get_last rfl) (by omega) ?_
    repeat focus done
    exact q _

end
theorem cell_wp {ns : List Int} {k : Nat} {h : Hs} {E : D → Hs → Prop} {Q : D → Hs → Prop} (k0 : k ≤ 100000) (hq : ∀ x : Int, Q (.int x) h) : (F__law_cell [.scr (ns.map D.int), .int (k : Int)] h).xp E Q := by
  refine w_run ?_
  unfold f__law_cell
  repeat focus done
  refine ⟨fun hc => ?_, fun _ => ?_⟩
  · repeat focus done
    have hk : k < (ns.map D.int).length := by
      have := of_decide_eq_true hc
      omega
    refine p_ixScr (List.getElem?_eq_getElem hk) ?_
    rw [List.getElem_map]
    exact hq _
  · repeat focus done
    refine w_for (fun r ρ h' => (∀ d ∈ r, ∃ x, d = .int x) ∧ h' = h ∧ ∃ s o, ρ = [some (.scr (ns.map D.int)), some (.int (k : Int)), some (.int s), o]) ?_ ?_ ?_
    · repeat focus done
      refine ⟨_, rfl, rfl, fun d hd => ?_, rfl, _, _, rfl⟩
      have hd := List.mem_of_mem_drop (List.mem_of_mem_take hd)
      obtain ⟨x, _, rfl⟩ := List.mem_map.mp hd
      exact ⟨x, rfl⟩
    · rintro d r ρ h' ⟨hd, rfl, s, o, rfl⟩
      obtain ⟨x, rfl⟩ := hd d List.mem_cons_self
      refine ⟨_, rfl, ?_⟩
      repeat focus done
      exact ⟨fun d h => hd d (List.mem_cons_of_mem _ h), rfl, _, _, rfl⟩
    · rintro ρ h' ⟨_, rfl, s, o, rfl⟩
      repeat focus done
      exact hq _

theorem purse_wp {x : Int} {h : Hs} {E : D → Hs → Prop} {Q : D → Hs → Prop} (k : ∀ a b c : Int, Q (.ref h.length) (h ++ [.lst [.int a, .int b, .int c]])) : (F__law_purse [.int x] h).xp E Q := by
  refine w_run ?_
  unfold f__law_purse
  repeat focus done
  refine ⟨fun _ => ?_, fun _ => ?_⟩
  · repeat focus done
    exact k _ _ _
  · repeat focus done
    refine p_pow (by unfold CPow; decide) ?_
    repeat focus done
    refine ⟨fun _ => ?_, fun _ => ?_⟩
    · repeat focus done
      exact k _ _ _
    · repeat focus done
      exact k _ _ _

section
local macro_rules
  | `(tactic| done) => `(tactic| first
    | with_reducible refine p_ixBl ?_
    | with_reducible refine p_ixT0 ?_
    | with_reducible refine p_ixT1 ?_
    | with_reducible refine p_ixT2 ?_
    | with_reducible refine p_ixT3 ?_
    | with_reducible refine p_ixT4 ?_
    | with_reducible refine p_ixT5 ?_
    | with_reducible refine p_ixL0 ?_
    | with_reducible refine p_ixL1 ?_
    | with_reducible refine p_ixL2 ?_
    | with_reducible refine p_eqSI false (by decide +kernel) ?_
    | with_reducible refine p_eqSI true (by decide +kernel) ?_
    | with_reducible refine p_eqSS ?_
    | with_reducible refine p_neS ?_
    | with_reducible refine w_maxD ?_
    | with_reducible refine w_slS ?_
    | with_reducible refine w_fmt ?_
    | with_reducible refine p_listL ?_)
local macro_rules
  | `(tactic| done) => `(tactic| with_reducible refine w_meth ?_)
local macro_rules
  | `(tactic| done) => `(tactic| with_reducible refine w_meth0 ?_)
local macro_rules
  | `(tactic| done) => `(tactic| with_reducible refine w_methK ?_)
local macro_rules
  | `(tactic| done) => `(tactic| ((with_reducible refine and_len ?_ ?_); rfl))
local macro_rules
  | `(tactic| done) => `(tactic| ((with_reducible refine and_lk ?_ ?_); rfl))
theorem cut_map2 (wf : Nat → Str) (n : Nat) (i : Int) : ∃ xs : List Str, G.cutD ((List.range n).map fun i => D.str (wf i)) none (some i) = xs.map D.str ∧ xs.Sublist ((List.range n).map wf) := by
  obtain ⟨ca, cb, ec⟩ := cut_map D.str ((List.range n).map wf) none (some i)
  rw [List.map_map] at ec
  exact ⟨_, ec, (List.take_sublist _ _).trans (List.drop_sublist _ _)⟩
def TrmOk (g : Int) (t : D) : Prop := t = .non ∨ ∃ z, t = .int z ∧ 1 ≤ z ∧ z ≤ g
theorem drawn_wp {n : Nat} {h : Hs} {E : D → Hs → Prop} {Q : D → Hs → Prop} (p : Pu n h) (k : ∀ x c g t hs h', NameOk x → 1 ≤ c → c ≤ 99 → 1 ≤ g → g ≤ 600 → TrmOk g t → HOk c hs → Up n h h' → Pu n h' → Q (.tup [.str x, .int c, .int g, t, .tup (hs.map encH)]) h') : (F__law_drawn [.ref n] h).xp E Q := by
  refine w_run ?_
  unfold f__law_drawn
  repeat focus done
  refine words_wp p (by omega) (by omega) fun wf h1 W u1 p1 => ?_
  repeat focus done
  refine take_wp p1 (by omega) (by omega) fun a h2 u2 p2 a0 a1 => ?_
  repeat focus done
  refine take_wp p2 (by omega) (by omega) fun b h3 u3 p3 b0 b1 => ?_
  repeat focus done
  refine take_wp p3 (by omega) (by omega) fun e h4 u4 p4 e0 e1 => ?_
  refine p_ixA (fun d => ∃ z, d = .int z ∧ 1 ≤ z ∧ z ≤ 99) e0 (by simp; omega) (by
    intro d hd
    simp only [List.mem_cons, List.not_mem_nil, or_false] at hd
    rcases hd with rfl | rfl | rfl | rfl | rfl <;> exact ⟨_, rfl, by omega, by omega⟩) ?_
  rintro _ ⟨c, rfl, c0, c1⟩
  repeat focus done
  refine take_wp p4 (by omega) (by omega) fun a' h5 u5 p5 a0' a1' => ?_
  repeat focus done
  refine take_wp p5 (by omega) (by omega) fun b' h6 u6 p6 b0' b1' => ?_
  repeat focus done
  refine take_wp p6 (by omega) (by omega) fun e' h7 u7 p7 e0' e1' => ?_
  refine p_ixA (fun d => ∃ z, d = .int z ∧ 1 ≤ z ∧ z ≤ 600) e0' (by simp; omega) (by
    intro d hd
    simp only [List.mem_cons, List.not_mem_nil, or_false] at hd
    rcases hd with rfl | rfl | rfl | rfl <;> exact ⟨_, rfl, by omega, by omega⟩) ?_
  rintro _ ⟨g, rfl, g0, g1⟩
  repeat focus done
  refine take_wp p7 (by omega) (by omega) fun a2 h8 u8 p8 a20 a21 => ?_
  repeat focus done
  refine take_wp p8 (by omega) (by omega) fun e2 h9 u9 p9 e20 e21 => ?_
  refine p_ixA (TrmOk g) e20 (by simp; omega) (by
    intro d hd
    simp only [List.mem_cons, List.not_mem_nil, or_false] at hd
    rcases hd with rfl | rfl | rfl | rfl
    · exact .inl rfl
    · exact .inr ⟨_, rfl, by omega, by omega⟩
    · exact .inr ⟨_, rfl, by omega, by omega⟩
    · exact .inr ⟨_, rfl, by omega, by omega⟩) fun t ot => ?_
  repeat focus done
  refine p_ixL (k := 0) (d := .str (wf 0)) (by simp) ?_
  repeat focus done
  refine w_trim ?_
  repeat focus done
  refine take_wp p9 (by omega) (by omega) fun m h10 u10 p10 m0 m1 => ?_
  repeat focus done
  refine p_slL ?_
  obtain ⟨xs, ex, sx⟩ := cut_map2 wf 4 m
  have ex : G.cutD ((List.range (4 : Int).toNat).map fun i => D.str (wf i)) none (some m) = xs.map D.str := ex
  rw [ex]
  have xl := sx.length_le
  rw [List.length_map, List.length_range] at xl
  have U := ((((((((u1.trans u2).trans u3).trans u4).trans u5).trans u6).trans u7).trans u8).trans u9).trans u10
  repeat focus done
  refine holds_wp p10 c0 c1 (by omega) (fun y hy => ?_) ((wds_nd W (by omega)).sublist sx) fun hs h11 ho u11 p11 => ?_
  · obtain ⟨i, hi, rfl⟩ := List.mem_map.mp (sx.subset hy)
    exact W.ok i (by have := List.mem_range.mp hi; omega)
  have u12 := u10.trans u11
  refine ⟨.tup (hs.map encH), ?_, ?_, ?_⟩
  · rw [frz_below]
    simp only [D.blw, enc_below]
  · intro i hi
    have := u12.old p9.lt i hi
    rwa [List.getElem?_append_left (by rw [u12.len]; exact hi)]
  · rw [List.take_left' u12.len]
    repeat focus done
    exact k _ _ _ _ _ _ (W.ok 0 (by omega)) c0 c1 g0 g1 ot ho (U.trans u11) p11
theorem taskX_repr_wp {xi : XI} {x : Str} {fs : List (Str × D)} {h : Hs} {E : D → Hs → Prop} {Q : D → Hs → Prop} (n : NameOk x) (e : fs.lookup ("name" : Str) = some (D.str x)) (q : Q (.str (("Task(" : Str) ++ x ++ (")" : Str))) h) : (FX_Task___repr__ xi [.ins "Task" fs] h).xp E Q := by
  refine w_run ?_
  unfold fX_Task___repr__
  have l := n.2.1
  refine w_ret (w_fs (w_jc (w_c ⟨_, rfl, by decide +kernel, w_jc ?_⟩)))
  repeat focus done
  refine ⟨"Task", fs, .str x, rfl, by simp, e, .inl ⟨x, rfl, by rw [sizeLine_eq]; omega, ?_⟩⟩
  have e5 : (Str.empty ++ ("Task(" : Str)).length = 5 := by decide +kernel
  refine ⟨x, rfl, by rw [strLen_append, e5, sizeLine_eq]; omega, w_jc (w_c ⟨_, rfl, ?_, w_j0 ?_⟩)⟩
  · rw [strLen_append, strLen_append, e5, sizeLine_eq]
    have : (Str.ofString ")").length = 1 := by decide
    omega
  · have : Str.empty ++ ("Task(" : Str) = ("Task(" : Str) := by decide +kernel
    rw [this]
    exact q
theorem sho_tskX {xi : XI} {x : Str} {c g : Int} {t : D} {hs : List Hd} (n : NameOk x) : Sho (T_reprX xi) (tskD x c g t hs) 14 0 := by
  have l := n.2.1
  have e1 : (Str.ofString ")").length = 1 := by decide
  refine sho_ins (t := ("Task(" : Str) ++ x ++ (")" : Str)) (fun h => ownT_of (f := FX_Task___repr__ xi) (by rfl) (taskX_repr_wp n rfl ⟨rfl, rfl⟩)) ?_
  rw [strLen_append, strLen_append]
  have e5 : (Str.ofString "Task(").length = 5 := by decide
  omega
structure Thg (c : Int) (d : D) : Prop where
  ty : tyP CS d = true
  no : inRg 0 c d = false
  sh : ∀ xi, Sho (T_reprX xi) d 1000 4
theorem refused_wp {x : Str} {c g : Int} {d t : D} {hs : List Hd} {b : Bool} {h : Hs} {E : D → Hs → Prop} {Q : D → Hs → Prop} (o : Thg c d) (q : Q (.bl true) h) : (F__law_refused [tskD x c g t hs, d, .bl b] h).xp E Q := by
  have key : ∀ (E2 : D → Hs → Prop) (Q2 : D → Hs → Prop), E2 (.ins "NoNumber" [("number", d)]) h → (F_Task_held [tskD x c g t hs, d] h).xp E2 Q2 := fun E2 Q2 e => held_bad o.ty o.no e
  refine w_run ?_
  unfold f__law_refused
  repeat focus done
  cases b <;> (repeat focus done)
  all_goals
    refine key _ _ ⟨_, _, _, rfl, rfl, ?_⟩
    refine w_hdlR (d0 := .bl true) (h0 := h) (by decide +kernel) (fun x => ?_) q
    repeat focus done
    refine w_isXb false rfl rfl (by decide +kernel) ?_
    repeat focus done
    refine w_isXb true rfl rfl (by decide +kernel) ?_
    repeat focus done
    refine w_isXb true rfl rfl (by decide +kernel) ?_
    repeat focus done
    refine w_fldX rfl (by simp) rfl ?_
    repeat focus done
    refine p_repr (o.sh x) (by decide) (by decide) fun t1 et => ?_
    repeat focus done
    refine p_repr (o.sh x) (by decide) (by decide) fun t2 et' => ?_
    rw [Shn.eq et' et]
    repeat focus done
    exact ⟨by simp, rfl⟩

end
section
local macro_rules
  | `(tactic| done) => `(tactic| first
    | with_reducible refine p_ixBl ?_
    | with_reducible refine p_ixT0 ?_
    | with_reducible refine p_ixT1 ?_
    | with_reducible refine p_ixT2 ?_
    | with_reducible refine p_ixT3 ?_
    | with_reducible refine p_ixT4 ?_
    | with_reducible refine p_ixT5 ?_
    | with_reducible refine p_ixL0 ?_
    | with_reducible refine p_ixL1 ?_
    | with_reducible refine p_ixL2 ?_
    | with_reducible refine p_eqSI false (by decide +kernel) ?_
    | with_reducible refine p_eqSI true (by decide +kernel) ?_
    | with_reducible refine p_eqSS ?_
    | with_reducible refine p_neS ?_
    | with_reducible refine w_maxD ?_
    | with_reducible refine w_slS ?_
    | with_reducible refine w_fmt ?_
    | with_reducible refine p_listL ?_)
local macro_rules
  | `(tactic| done) => `(tactic| with_reducible refine w_meth ?_)
local macro_rules
  | `(tactic| done) => `(tactic| with_reducible refine w_meth0 ?_)
local macro_rules
  | `(tactic| done) => `(tactic| with_reducible refine w_methK ?_)
local macro_rules
  | `(tactic| done) => `(tactic| ((with_reducible refine and_len ?_ ?_); rfl))
local macro_rules
  | `(tactic| done) => `(tactic| ((with_reducible refine and_lk ?_ ?_); rfl))
theorem w_lstRg1t {f : SE} {ρ : Ev} {h : Hs} {b : Int} {E : D → Hs → Prop} {Q : D → Hs → Prop} (q : (f ρ h).xp noE fun d h1 => d = .int b ∧ h1 = h) (o : okRg 0 b) (k : Q (.lst (rngD 0 b)) h) : (sTrim (sLstRg1 f) ρ h).xp E Q := by
  refine w_trim (w_bind (q.mono fun d h1 ⟨e1, e2⟩ => ?_))
  subst e1 e2
  show R.xp (if okRg 0 b then R.ok (D.ref h1.length) (h1 ++ [OB.lst (rngD 0 b)]) else .no) _ _
  rw [if_pos o]
  have bl : belows h1.length (rngD 0 b) = true := by
    rw [belows_all, List.all_eq_true]
    intro d hd
    simp only [rngD, List.mem_map] at hd
    obtain ⟨y, _, rfl⟩ := hd
    rfl
  refine trim_ok rfl (Nat.le_refl _) (get_last rfl) bl (OldOk.refl _) ?_
  rw [List.take_left' rfl]
  exact k
theorem at_dat {c d : Int} {hs : List Hd} (o : HOk c hs) : Dat (atT hs d) 60 := (dat_tup (k := 0) fun e he => by
  obtain ⟨x, hx, rfl⟩ := List.mem_map.mp he
  have h1 := (uniq_mem _ _).mp (srt_mem hx)
  obtain ⟨t, ht, rfl⟩ := List.mem_map.mp h1
  exact dat_nm (o.nm t (List.mem_filter.mp ht).1)).mono (by omega)
theorem at_end {c d : Int} {hs : List Hd} (o : HOk c hs) (e : d = 0 ∨ d = c) : atT hs d = .tup [] := by
  have : hs.filter (lies d) = [] := List.filter_eq_nil_iff.mpr fun t ht => by
    have b0 := o.b0 t ht
    have e0 := o.e0 t ht
    unfold lies
    rw [Bool.and_eq_true, decide_eq_true_eq, decide_eq_true_eq]
    omega
  unfold atT atD
  rw [this]
  simp [sortS, uniqX]
def stOk (c : Int) (d : D) : Prop := ∃ z, d = .int z ∧ 0 ≤ z ∧ z ≤ c
theorem things_ok {x : Str} {c g : Int} {t : D} {hs : List Hd} (nx : NameOk x) (c0 : 1 ≤ c) (c1 : c ≤ 99) : ∀ d ∈ [D.int (0 - 1), .int (c + 1), .int 1000000000000000000000000000000, .int (0 - 1000000000000000000000000000000), .bl true, .bl false, .non, .str "0", .str "", .tup [], .tup [.int 0], .lst [], .lst [.int 1], .dct [], .tup [.lst []], tskD x c g t hs], Thg c d := by
  intro d hd
  have e0 : ∀ tb, Sho tb (.lst []) 3 1 := fun tb => (sho_lst (n := 0) (k := 0) (ds := []) (by simp)).mono (by simp) (by omega)
  have t0 : ∀ tb, Sho tb (.tup []) 3 1 := fun tb => (sho_tup (n := 0) (k := 0) (ds := []) (by simp)).mono (by simp) (by omega)
  have nr : ∀ z : Int, ¬ (0 ≤ z ∧ z ≤ c) → inRg 0 c (.int z) = false := fun z h => decide_eq_false h
  have i1 : ∀ tb (z : Int), z.natAbs < 10 ^ 31 → Sho tb (.int z) 1000 4 := fun tb z hz => (sho_int (k := 31) (by decide) hz (by decide)).mono (by omega) (by omega)
  simp only [List.mem_cons, List.not_mem_nil, or_false] at hd
  rcases hd with rfl | rfl | rfl | rfl | rfl | rfl | rfl | rfl | rfl | rfl | rfl | rfl | rfl | rfl | rfl | rfl
  · exact ⟨rfl, nr _ (by omega), fun xi => i1 _ _ (by decide)⟩
  · exact ⟨rfl, nr _ (by omega), fun xi => i1 _ _ (by omega)⟩
  · exact ⟨rfl, nr _ (by omega), fun xi => i1 _ _ (by decide)⟩
  · exact ⟨rfl, nr _ (by omega), fun xi => i1 _ _ (by decide)⟩
  · exact ⟨rfl, rfl, fun xi => (sho_bl _).mono (by omega) (by omega)⟩
  · exact ⟨rfl, rfl, fun xi => (sho_bl _).mono (by omega) (by omega)⟩
  · exact ⟨rfl, rfl, fun xi => sho_non.mono (by omega) (by omega)⟩
  · exact ⟨rfl, rfl, fun xi => (sho_lit (by decide +kernel)).mono (by omega) (by omega)⟩
  · exact ⟨rfl, rfl, fun xi => (sho_lit (by decide +kernel)).mono (by omega) (by omega)⟩
  · exact ⟨rfl, rfl, fun xi => (t0 _).mono (by omega) (by omega)⟩
  · exact ⟨rfl, rfl, fun xi => (sho_tup (n := 10) (k := 0) (ds := [_]) (fun x hx => by rw [List.mem_singleton.mp hx]; exact (sho_int (k := 1) (by decide) (by decide) (by decide)).mono (by omega) (by omega))).mono (by simp) (by omega)⟩
  · exact ⟨rfl, rfl, fun xi => (e0 _).mono (by omega) (by omega)⟩
  · exact ⟨rfl, rfl, fun xi => (sho_lst (n := 10) (k := 0) (ds := [_]) (fun x hx => by rw [List.mem_singleton.mp hx]; exact (sho_int (k := 1) (by decide) (by decide) (by decide)).mono (by omega) (by omega))).mono (by simp) (by omega)⟩
  · exact ⟨rfl, rfl, fun xi => sho_dct0.mono (by omega) (by omega)⟩
  · exact ⟨rfl, rfl, fun xi => (sho_tup (n := 10) (k := 1) (ds := [_]) (fun x hx => by rw [List.mem_singleton.mp hx]; exact (e0 _).mono (by omega) (by omega))).mono (by simp) (by omega)⟩
  · exact ⟨rfl, rfl, fun xi => (sho_tskX nx).mono (by omega) (by omega)⟩
def IL (ns : List Int) (r : List D) (ρ : Ev) (H : Hs) : Prop := (∀ d ∈ r, ∃ k : Nat, d = .int k ∧ k ≤ 12) ∧ ∃ o1 o2 o3 o4 o5 o6 o7 o8 o9 o10 o11 o12 o13 o14, ρ = [some (.scr (ns.map D.int)), o1, o2, o3, o4, o5, o6, o7, o8, o9, o10, o11, o12, o13, o14]
theorem body_wp (ns : List Int) : (F_law [.scr (ns.map D.int)] []).wp fun d _ => d = .bl true := by
  refine w_run ?_
  unfold f_law
  repeat focus done
  refine w_for (IL ns) ?_ ?_ ?_
  · repeat focus done
    generalize hb : (if ((ns.map D.int).length : Int) < 12 then ((ns.map D.int).length : Int) else 12) = b
    have b1 : b ≤ 12 ∧ 0 ≤ b := by
      rw [← hb]
      split <;> omega
    generalize hc : (if b > 2 then b else 2) = c
    have c1 : c ≤ 12 ∧ 0 ≤ c := by
      rw [← hc]
      split <;> omega
    refine ⟨by unfold G.inR; omega, rfl, fun d hd => ?_, none, none, none, none, none, none, none, none, none, none, none, none, none, none, rfl⟩
    obtain ⟨i, rfl, hi⟩ := rng_mem hd
    exact ⟨i, rfl, by omega⟩
  · rintro d r ρ H ⟨hd, o1, o2, o3, o4, o5, o6, o7, o8, o9, o10, o11, o12, o13, o14, rfl⟩
    obtain ⟨k, rfl, hk⟩ := hd d List.mem_cons_self
    have hr : ∀ d ∈ r, ∃ k : Nat, d = .int k ∧ k ≤ 12 := fun d h => hd d (List.mem_cons_of_mem _ h)
    refine ⟨_, rfl, ?_⟩
    repeat focus done
    refine cell_wp (by omega) fun v => ?_
    repeat focus done
    refine purse_wp fun pa pb pc => ?_
    have p : Pu H.length (H ++ [.lst [.int pa, .int pb, .int pc]]) := ⟨pa, pb, pc, get_last rfl⟩
    generalize eH : H ++ [OB.lst [.int pa, .int pb, .int pc]] = H0 at p
    generalize H.length = n at *
    repeat focus done
    refine drawn_wp p fun x c g t hs h1 nx c0 c1 g0 g1 ot ho u1 p1 => ?_
    repeat focus done
    have tt : tyP CS t = true := by rcases ot with rfl | ⟨z, rfl, _, _⟩ <;> rfl
    have ok : TaskOk (.str x) (.int c) (.int g) t (.tup (hs.map encH)) := ⟨isNm_ok nx, decide_eq_true ⟨c0, c1⟩, decide_eq_true ⟨g0, g1⟩, by
      rcases ot with rfl | ⟨z, rfl, z0, z1⟩
      · exact .inl rfl
      · exact .inr (decide_eq_true ⟨z0, z1⟩), areHolds_ok ho⟩
    refine mkTask_wp (x := .str x) (c := .int c) (g := .int g) (t := t) (hs := .tup (hs.map encH)) (argS (by have : x.length ≤ 8 := nx.2.1; omega)) rfl rfl tt (holdsP_enc ho.len ho.nm) ?_ (fun _ => ?_) fun p hp => by rw [taskOk_bad ok] at hp; cases hp
    · repeat focus done
      exact ⟨rfl, rfl⟩
    rw [show D.ins "Task" (fldT (.str x) (.int c) (.int g) t (.tup (hs.map encH))) = tskD x c g t hs from rfl]
    repeat focus done
    have h99 : HOk 99 hs := ⟨ho.len, ho.nm, ho.b0, ho.s0, fun z hz => by have := ho.e0 z hz; omega, ho.up⟩
    refine w_for (fun rr ρ H => (∀ d ∈ rr, stOk c d) ∧ Pu n H ∧ ∃ o9 o10 o11 o12 o13 o14, ρ = [some (.scr (ns.map D.int)), some (.int k), some (.ref n), some (.str x), some (.int c), some (.int g), some t, some (.tup (hs.map encH)), some (tskD x c g t hs), o9, o10, o11, o12, o13, o14]) ?_ ?_ ?_
    · refine w_sq ?_
      refine w_bin ?_
      refine w_lstRg1t (b := c + 1) ?_ (by unfold okRg; omega) ?_
      · repeat focus done
        exact ⟨rfl, rfl⟩
      repeat focus done
      refine take_wp p1 (by omega) (by omega) fun i h2 u2 p2 i0 i1 => ?_
      repeat focus done
      refine p_addL (Nat.ble_eq_true_of_le (by simp [rngD]; omega)) ?_
      refine ⟨_, rfl, rfl, fun d hd => ?_, p2, _, _, _, _, _, _, rfl⟩
      rcases List.mem_append.mp hd with hd | hd
      · simp only [rngD, List.mem_map, List.mem_range] at hd
        obtain ⟨y, hy, rfl⟩ := hd
        exact ⟨_, rfl, by omega, by omega⟩
      · simp only [List.mem_cons, List.not_mem_nil, or_false] at hd
        rcases hd with rfl | rfl | rfl
        · exact ⟨_, rfl, by omega, by omega⟩
        · exact ⟨_, rfl, by omega, by omega⟩
        · exact ⟨_, rfl, by omega, by omega⟩
    · rintro d rr ρ H ⟨hd, pH, o9, o10, o11, o12, o13, o14, rfl⟩
      obtain ⟨z, rfl, z0, z1⟩ := hd d List.mem_cons_self
      have hrr : ∀ d ∈ rr, stOk c d := fun d h => hd d (List.mem_cons_of_mem _ h)
      refine ⟨_, rfl, ?_⟩
      repeat focus done
      refine held_wp ho.len z0 z1 ?_
      repeat focus done
      refine held_wp ho.len z0 z1 ?_
      repeat focus done
      refine due_at_wp h99 fun t2 => ?_
      refine p_neDat (b := true) (at_dat ho) (at_dat ho) (by simp) ?_
      repeat focus done
      refine p_neDat (b := true) (at_dat ho) (at_dat ho) (by simp) ?_
      repeat focus done
      exact ⟨hrr, pH.app t2, _, _, _, _, _, _, rfl⟩
    · rintro ρ H ⟨_, pH, o9, o10, o11, o12, o13, o14, rfl⟩
      repeat focus done
      refine p_pow (by unfold CPow; omega) ?_
      repeat focus done
      refine p_pow (by unfold CPow; omega) ?_
      repeat focus done
      refine take_wp pH (by omega) (by omega) fun i2 h2 u2 p2 i20 i21 => ?_
      repeat focus done
      have e30 : (10 : Int) ^ Int.toNat 30 = 1000000000000000000000000000000 := by decide
      rw [e30]
      have things := things_ok (x := x) (c := c) (g := g) (t := t) (hs := hs) nx c0 c1
      refine w_for (fun rr ρ H => (∀ d ∈ rr, Thg c d) ∧ Pu n H ∧ ∃ o9 o10 o11 o12 o13 o14, ρ = [some (.scr (ns.map D.int)), some (.int k), some (.ref n), some (.str x), some (.int c), some (.int g), some t, some (.tup (hs.map encH)), some (tskD x c g t hs), o9, o10, o11, o12, o13, o14]) ?_ ?_ ?_
      · refine w_sq ?_
        repeat focus done
        refine p_ixA (Thg c) i20 (by simp; omega) things fun d1 t1 => ?_
        repeat focus done
        refine ⟨rfl, fun d hd => ?_, p2, _, _, _, _, _, _, rfl⟩
        simp only [List.mem_cons, List.not_mem_nil, or_false] at hd
        rcases hd with rfl | rfl | rfl | rfl
        · exact t1
        · exact things _ (by simp)
        · exact things _ (by simp)
        · exact things _ (by simp)
      · rintro d rr ρ H ⟨hd, pH, o9, o10, o11, o12, o13, o14, rfl⟩
        have td := hd d List.mem_cons_self
        have hrr : ∀ d ∈ rr, Thg c d := fun d h => hd d (List.mem_cons_of_mem _ h)
        refine ⟨_, rfl, ?_⟩
        repeat focus done
        refine take_wp pH (by omega) (by omega) fun i3 h3 u3 p3 i30 i31 => ?_
        repeat focus done
        refine refused_wp td ?_
        repeat focus done
        exact ⟨hrr, p3, _, _, _, _, _, _, rfl⟩
      · rintro ρ H ⟨_, pH, o9, o10, o11, o12, o13, o14, rfl⟩
        have d0 : Dat (.tup []) 60 := (dat_tup (ds := []) (k := 0) (by simp)).mono (by omega)
        repeat focus done
        refine held_wp ho.len (by omega) (by omega) ?_
        rw [at_end ho (.inl rfl)]
        repeat focus done
        refine p_neDat (b := true) d0 d0 (by simp) ?_
        repeat focus done
        refine held_wp ho.len (by omega) (by omega) ?_
        rw [at_end ho (.inr rfl)]
        repeat focus done
        refine p_neDat (b := true) d0 d0 (by simp) ?_
        repeat focus done
        exact ⟨hr, _, _, _, _, _, _, _, _, _, _, _, _, _, _, rfl⟩
  · rintro ρ H ⟨_, o1, o2, o3, o4, o5, o6, o7, o8, o9, o10, o11, o12, o13, o14, rfl⟩
    repeat focus done
    rfl
theorem plain (ns : List Int) (hl : ns.length ≤ 63) : ∃ h', F_law [.scr (ns.map D.int)] [] = .ok (.bl true) h' := by
  obtain ⟨d, h', e, rfl⟩ := (body_wp ns).get
  exact ⟨h', e⟩

end
end Law_k03
set_option maxHeartbeats 0

namespace Law_k03
open PySem PySem.Spec PyProof.Rows L2 G
theorem law_bind {K : PySem.W.Frag} {mg : Str → Option Value} (F : Fc fbs fn K mg) (s : Shared) (u : Value) : BindsTo s (fdOf K ("law", none)) ⟨[u], []⟩ [("_law_script", u)] := (fd_law F).bindsA (ps := ["_law_script"]) (fun kV doc pm an cdv ct us h => by
  obtain ⟨x, rfl⟩ := list_len1 h
  rfl) s [u] rfl
end Law_k03
open PySem PySem.W PySem.Calls PyProof.Rows
theorem PySem.Challenge.cw_duetimes_k03_what_is_held_when_holds : PySem.Challenge.rw_duetimes_k03_what_is_held_when.Holds := by
  w_on; o_law
  refine HandSHeadRun.head_any (r := Law_k03.R0) (q := view Law_k03.R0.prog [34]) (H := Law_k03.hk) (ob := Law_k03.ob) (M := 6000) (loose := Law_k03.loose) (d := HandSHeadRun.topDef Law_k03.R0.prog 34) (kwd := []) Law_k03.ob_eq
    (by kernel_rfl) (fun s => by kernel_rfl) Law_k03.run (by kernel_rfl) (by kernel_rfl) (by kernel_rfl) (by rfl) (by first | assumption | decide +kernel) (by decide +kernel) ⟨rfl, rfl, rfl, rfl, rfl, by decide +kernel⟩ ?hw ?hc
  case hw => w_witness2
  case hc =>
    refine G.walk_go (l := PySem.Challenge.rw_duetimes_k03_what_is_held_when) (n := 63) (k := 15) (x := "_law_script") (fs := Law_k03.F_law) rfl (by decide) (by kernel_rfl) ⟨⟨rfl, by decide, by decide⟩, fun _ => rfl⟩ ?F Law_k03.plain
    intro w mg fa h Y G0 hmg0
    obtain ⟨K, KX, c⟩ := Y
    have hmg : mg ("law" : PySem.Str) = some (.ref fa) := by
      have e : (HandSHeadRun.topDef Law_k03.R0.prog 34).name = ("law" : PySem.Str) := by kernel_rfl
      rw [← e]
      exact hmg0
    have F : G.Fc Law_k03.fbs Law_k03.fn K mg := ⟨⟨h, KX, G0⟩, c.t.d, c.more⟩
    have e2 := hmg.symm.trans (F.glo 61)
    cases e2
    exact ⟨K, _, KX, Law_k03.law_bind F, fun base _ _ => Law_k03.w_law F⟩
