import PyProof.Rows.All
import Wide.All
import OpenK.AllK
import Wide.FinOn
import KE.KStateDown
import Lean
import HandS.Base
import HandS.Call
import HandS.List
import HandS.Comp
import HandS.Ends
import HandS.Dict
import HandS.Iter
import HandS.More
import HandS.Words
import HandS.Exc
import HandS.TryOnly
import HandS.ExcOwn
import HandS.WordsExc
import HandS.Wide
import HandS.Deep
import HandS.Defaults
import HandS.Head0
import HandS.Head1
import HandS.Head2
import HandS.HeadEnd
import HandS.HeadHook1
import HandS.HeadHook2
import HandS.IsInst
import HandS.Conv
import HandS.ExcIs
import KE.SortData
import HandS.SortInts
import HandS.HeadHook3
import HandS.HeadHook4
import PySem.Challenge.RW_chancehouse_k02_no_fraction
set_option Elab.async false
set_option linter.all false
set_option maxRecDepth 100000
set_option maxHeartbeats 4000000
/-! PL1: data, its place in the heap, owned trees -/
namespace PL
open PySem PySem.Spec PyProof.Rows L2

/-- data, as the functions see it -/
inductive D where
  | non | bl (b : Bool) | int (i : Int) | str (x : Str)
  | tup (xs : List D) | lst (xs : List D)
  | scr (ns : List Int)
  | dct (ks : List Int) (vs : List D)
  | exc (c : Str)

/-- an object is an exception of the class at C -/
def excPhi (C a : Addr) : Heap → Prop := fun h => ∃ (o : Obj) (vs : Array Value), h.get? a = some o ∧ o.cls = .ref C ∧ o.dict = none ∧ o.data = .fields vs

mutual
/-- the value v is the data d in the heap H -/
def RD (K : PySem.W.Frag) (H : Hp) : D → V → Prop
  | .non, v => v = .non
  | .bl b, v => v = .bl b
  | .int i, v => v = .int i
  | .str x, v => v = .str x
  | .tup ds, v => ∃ a vs, v = .ref a ∧ H a = some (.tup vs) ∧ RDs K H ds vs
  | .lst ds, v => ∃ a vs, v = .ref a ∧ H a = some (.lst vs) ∧ RDs K H ds vs
  | .scr ns, v => ∃ a, v = .ref a ∧ SqL K H a (ns.map V.int)
  | .dct ks ds, v => ∃ a kvs, v = .ref a ∧ H a = some (.dK kvs) ∧ kvs.map (·.1) = ks.map Sum.inl ∧ RDs K H ds (kvs.map (·.2))
  | .exc c, v => ∃ a, v = .ref a ∧ H a = some (.ext (excPhi (He.ga K c) a))
def RDs (K : PySem.W.Frag) (H : Hp) : List D → List V → Prop
  | [], vs => vs = []
  | d :: ds, vs => ∃ v r, vs = v :: r ∧ RD K H d v ∧ RDs K H ds r
end

section
variable {K : PySem.W.Frag} {H H' : Hp}
theorem sql_mono {a : Addr} {xs : List V} (e : Same H H') (h : SqL K H a xs) : SqL K H' a xs := e.seq h
mutual
theorem RD.mono (e : Same H H') : ∀ (d : D) (v : V), RD K H d v → RD K H' d v
  | .non, v, h => by simpa only [RD] using h
  | .bl b, v, h => by simpa only [RD] using h
  | .int i, v, h => by simpa only [RD] using h
  | .str x, v, h => by simpa only [RD] using h
  | .tup ds, v, h => by
    simp only [RD] at h ⊢
    obtain ⟨a, vs, h1, h2, h3⟩ := h
    exact ⟨a, vs, h1, e _ _ h2, RDs.mono e ds vs h3⟩
  | .lst ds, v, h => by
    simp only [RD] at h ⊢
    obtain ⟨a, vs, h1, h2, h3⟩ := h
    exact ⟨a, vs, h1, e _ _ h2, RDs.mono e ds vs h3⟩
  | .scr ns, v, h => by
    simp only [RD] at h ⊢
    obtain ⟨a, h1, h2⟩ := h
    exact ⟨a, h1, e.seq h2⟩
  | .dct ks ds, v, h => by
    simp only [RD] at h ⊢
    obtain ⟨a, kvs, h1, h2, h3, h4⟩ := h
    exact ⟨a, kvs, h1, e _ _ h2, h3, RDs.mono e ds _ h4⟩
  | .exc c, v, h => by
    simp only [RD] at h ⊢
    obtain ⟨a, h1, h2⟩ := h
    exact ⟨a, h1, e _ _ h2⟩
theorem RDs.mono (e : Same H H') : ∀ (ds : List D) (vs : List V), RDs K H ds vs → RDs K H' ds vs
  | [], vs, h => by simpa only [RDs] using h
  | d :: ds, vs, h => by
    simp only [RDs] at h ⊢
    obtain ⟨v, r, h1, h2, h3⟩ := h
    exact ⟨v, r, h1, RD.mono e d v h2, RDs.mono e ds r h3⟩
end
theorem RDs.length : ∀ {ds : List D} {vs : List V}, RDs K H ds vs → ds.length = vs.length
  | [], vs, h => by simp only [RDs] at h; subst h; rfl
  | d :: ds, vs, h => by
    simp only [RDs] at h
    obtain ⟨v, r, h1, h2, h3⟩ := h
    subst h1
    simp only [List.length_cons, RDs.length h3]
theorem RDs.get : ∀ {ds : List D} {vs : List V}, RDs K H ds vs → ∀ {i : Nat} {d : D}, ds[i]? = some d → ∃ v, vs[i]? = some v ∧ RD K H d v
  | [], vs, h, i, d, e => by simp at e
  | d :: ds, vs, h, 0, d', e => by
    simp only [RDs] at h
    obtain ⟨v, r, h1, h2, h3⟩ := h
    subst h1
    simp at e
    subst e
    exact ⟨v, rfl, h2⟩
  | d :: ds, vs, h, i + 1, d', e => by
    simp only [RDs] at h
    obtain ⟨v, r, h1, h2, h3⟩ := h
    subst h1
    obtain ⟨v', e1, e2⟩ := RDs.get h3 (i := i) (d := d') (by simpa using e)
    exact ⟨v', by simpa using e1, e2⟩
theorem RDs.append : ∀ {ds es : List D} {vs ws : List V}, RDs K H ds vs → RDs K H es ws → RDs K H (ds ++ es) (vs ++ ws)
  | [], es, vs, ws, h, h' => by simp only [RDs] at h; subst h; exact h'
  | d :: ds, es, vs, ws, h, h' => by
    simp only [RDs] at h
    obtain ⟨v, r, h1, h2, h3⟩ := h
    subst h1
    simp only [List.cons_append, RDs]
    exact ⟨v, _, rfl, h2, RDs.append h3 h'⟩
theorem RDs.take : ∀ {ds : List D} {vs : List V} (n : Nat), RDs K H ds vs → RDs K H (ds.take n) (vs.take n)
  | _, _, 0, _ => by simp [RDs]
  | [], vs, n + 1, h => by simp only [RDs] at h; subst h; simp [RDs]
  | d :: ds, vs, n + 1, h => by
    simp only [RDs] at h
    obtain ⟨v, r, h1, h2, h3⟩ := h
    subst h1
    simp only [List.take_succ_cons, RDs]
    exact ⟨v, _, rfl, h2, RDs.take n h3⟩
theorem RDs.drop : ∀ {ds : List D} {vs : List V} (n : Nat), RDs K H ds vs → RDs K H (ds.drop n) (vs.drop n)
  | _, _, 0, h => h
  | [], vs, n + 1, h => by simp only [RDs] at h; subst h; simp [RDs]
  | d :: ds, vs, n + 1, h => by
    simp only [RDs] at h
    obtain ⟨v, r, h1, h2, h3⟩ := h
    subst h1
    simp only [List.drop_succ_cons]
    exact RDs.drop n h3
theorem RDs.ints : ∀ {ns : List Int}, RDs K H (ns.map D.int) (ns.map V.int)
  | [] => by simp [RDs]
  | n :: ns => by
    simp only [List.map_cons, RDs]
    exact ⟨_, _, rfl, by simp only [RD], RDs.ints⟩
theorem RDs.ints_inv : ∀ {ns : List Int} {vs : List V}, RDs K H (ns.map D.int) vs → vs = ns.map V.int
  | [], vs, h => by simpa only [List.map_nil, RDs] using h
  | n :: ns, vs, h => by
    simp only [List.map_cons, RDs, RD] at h
    obtain ⟨v, r, h1, h2, h3⟩ := h
    subst h1 h2
    rw [List.map_cons, RDs.ints_inv h3]
end

/-! ### owned trees -/
/-- what a name holds: hole: nothing that may be read; fr: data that never changes; vw: data that is read only now; ol, ot: an own list, a tuple with own lists within -/
inductive OV where
  | hole | fr (d : D) | vw (d : D) | ol (xs : List OV) | ot (xs : List OV)

/-- sets of addresses -/
abbrev Fp := Addr → Prop
open Classical in
/-- the heap without the addresses O -/
noncomputable def msk (H : Hp) (O : Fp) : Hp := fun p => if O p then none else H p
theorem msk_some {H : Hp} {O : Fp} {p : Addr} {o : HO} : msk H O p = some o ↔ ¬ O p ∧ H p = some o := by
  unfold msk
  by_cases h : O p
  · simp [h]
  · simp [h]
theorem msk_same {H : Hp} {O : Fp} : Same (msk H O) H := fun p o e => (msk_some.mp e).2
theorem msk_sub {H : Hp} {O O' : Fp} (h : ∀ p, O' p → O p) : Same (msk H O) (msk H O') := fun p o e => by
  obtain ⟨h1, h2⟩ := msk_some.mp e
  exact msk_some.mpr ⟨fun z => h1 (h p z), h2⟩
/-- the step of the frozen part -/
theorem msk_step {H H' : Hp} {O O' : Fp} (s : Same H H') (h : ∀ p, O' p → O p ∨ H p = none) : Same (msk H O) (msk H' O') := fun p o e => by
  obtain ⟨h1, h2⟩ := msk_some.mp e
  refine msk_some.mpr ⟨fun z => ?_, s p o h2⟩
  rcases h p z with q | q
  · exact h1 q
  · rw [q] at h2; cases h2

mutual
def OV.nv : OV → Bool
  | .hole => true
  | .fr _ => true
  | .vw _ => false
  | .ol xs => OV.nvs xs
  | .ot xs => OV.nvs xs
def OV.nvs : List OV → Bool
  | [] => true
  | x :: xs => x.nv && OV.nvs xs
end
mutual
def OV.d : OV → Option D
  | .hole => none
  | .fr d => some d
  | .vw d => some d
  | .ol xs => (OV.ds xs).map D.lst
  | .ot xs => (OV.ds xs).map D.tup
def OV.ds : List OV → Option (List D)
  | [] => some []
  | x :: xs => match x.d, OV.ds xs with
    | some d, some ds => some (d :: ds)
    | _, _ => none
end
mutual
/-- no list within (and no dict, exception, script) -/
def D.lf : D → Bool
  | .non => true
  | .bl _ => true
  | .int _ => true
  | .str _ => true
  | .tup xs => D.lfs xs
  | _ => false
def D.lfs : List D → Bool
  | [] => true
  | x :: xs => x.lf && D.lfs xs
end

mutual
/-- the value v is the owned tree; A: the addresses of its own lists -/
def RO (K : PySem.W.Frag) (H F : Hp) : OV → V → Fp → Prop
  | .hole, _, A => ∀ p, ¬ A p
  | .fr d, v, A => RD K F d v ∧ ∀ p, ¬ A p
  | .vw d, v, A => RD K H d v ∧ ∀ p, ¬ A p
  | .ol xs, v, A => ∃ p vs B, v = .ref p ∧ H p = some (.lst vs) ∧ ROs K H F xs vs B ∧ ¬ B p ∧ ∀ q, A q ↔ q = p ∨ B q
  | .ot xs, v, A => ∃ p vs, v = .ref p ∧ H p = some (.tup vs) ∧ ROs K H F xs vs A
def ROs (K : PySem.W.Frag) (H F : Hp) : List OV → List V → Fp → Prop
  | [], vs, A => vs = [] ∧ ∀ p, ¬ A p
  | x :: xs, vs, A => ∃ v r B C, vs = v :: r ∧ RO K H F x v B ∧ ROs K H F xs r C ∧ (∀ q, B q → ¬ C q) ∧ ∀ q, A q ↔ B q ∨ C q
end

section
variable {K : PySem.W.Frag} {H H' F F' : Hp}
mutual
theorem RO.dom : ∀ {x : OV} {v : V} {A : Fp}, RO K H F x v A → ∀ q, A q → ∃ vs, H q = some (.lst vs)
  | .hole, v, A, h, q, a => by simp only [RO] at h; exact absurd a (h q)
  | .fr d, v, A, h, q, a => by simp only [RO] at h; exact absurd a (h.2 q)
  | .vw d, v, A, h, q, a => by simp only [RO] at h; exact absurd a (h.2 q)
  | .ol xs, v, A, h, q, a => by
    simp only [RO] at h
    obtain ⟨p, vs, B, h1, h2, h3, h4, h5⟩ := h
    rcases (h5 q).mp a with e | b
    · subst e; exact ⟨vs, h2⟩
    · exact ROs.dom h3 q b
  | .ot xs, v, A, h, q, a => by
    simp only [RO] at h
    obtain ⟨p, vs, h1, h2, h3⟩ := h
    exact ROs.dom h3 q a
theorem ROs.dom : ∀ {xs : List OV} {vs : List V} {A : Fp}, ROs K H F xs vs A → ∀ q, A q → ∃ vs, H q = some (.lst vs)
  | [], vs, A, h, q, a => by simp only [ROs] at h; exact absurd a (h.2 q)
  | x :: xs, vs, A, h, q, a => by
    simp only [ROs] at h
    obtain ⟨v, r, B, C, h1, h2, h3, h4, h5⟩ := h
    rcases (h5 q).mp a with b | c
    · exact RO.dom h2 q b
    · exact ROs.dom h3 q c
end
mutual
theorem RO.mono (s : Same H H') (f : Same F F') : ∀ {x : OV} {v : V} {A : Fp}, RO K H F x v A → RO K H' F' x v A
  | .hole, v, A, h => by simpa only [RO] using h
  | .fr d, v, A, h => by simp only [RO] at h ⊢; exact ⟨RD.mono f d v h.1, h.2⟩
  | .vw d, v, A, h => by simp only [RO] at h ⊢; exact ⟨RD.mono s d v h.1, h.2⟩
  | .ol xs, v, A, h => by
    simp only [RO] at h ⊢
    obtain ⟨p, vs, B, h1, h2, h3, h4, h5⟩ := h
    exact ⟨p, vs, B, h1, s _ _ h2, ROs.mono s f h3, h4, h5⟩
  | .ot xs, v, A, h => by
    simp only [RO] at h ⊢
    obtain ⟨p, vs, h1, h2, h3⟩ := h
    exact ⟨p, vs, h1, s _ _ h2, ROs.mono s f h3⟩
theorem ROs.mono (s : Same H H') (f : Same F F') : ∀ {xs : List OV} {vs : List V} {A : Fp}, ROs K H F xs vs A → ROs K H' F' xs vs A
  | [], vs, A, h => by simpa only [ROs] using h
  | x :: xs, vs, A, h => by
    simp only [ROs] at h ⊢
    obtain ⟨v, r, B, C, h1, h2, h3, h4, h5⟩ := h
    exact ⟨v, r, B, C, h1, RO.mono s f h2, ROs.mono s f h3, h4, h5⟩
end
mutual
theorem RO.cong (t : ∀ q vs, H q = some (.tup vs) → H' q = some (.tup vs)) (f : Same F F') : ∀ {x : OV} {v : V} {A : Fp}, (∀ q, A q → H' q = H q) → x.nv = true → RO K H F x v A → RO K H' F' x v A
  | .hole, v, A, e, n, h => by simpa only [RO] using h
  | .fr d, v, A, e, n, h => by simp only [RO] at h ⊢; exact ⟨RD.mono f d v h.1, h.2⟩
  | .vw d, v, A, e, n, h => by simp [OV.nv] at n
  | .ol xs, v, A, e, n, h => by
    simp only [OV.nv] at n
    simp only [RO] at h ⊢
    obtain ⟨p, vs, B, h1, h2, h3, h4, h5⟩ := h
    exact ⟨p, vs, B, h1, by rw [e p ((h5 p).mpr (.inl rfl))]; exact h2, ROs.cong t f (fun q b => e q ((h5 q).mpr (.inr b))) n h3, h4, h5⟩
  | .ot xs, v, A, e, n, h => by
    simp only [OV.nv] at n
    simp only [RO] at h ⊢
    obtain ⟨p, vs, h1, h2, h3⟩ := h
    exact ⟨p, vs, h1, t _ _ h2, ROs.cong t f e n h3⟩
theorem ROs.cong (t : ∀ q vs, H q = some (.tup vs) → H' q = some (.tup vs)) (f : Same F F') : ∀ {xs : List OV} {vs : List V} {A : Fp}, (∀ q, A q → H' q = H q) → OV.nvs xs = true → ROs K H F xs vs A → ROs K H' F' xs vs A
  | [], vs, A, e, n, h => by simpa only [ROs] using h
  | x :: xs, vs, A, e, n, h => by
    simp only [OV.nvs, Bool.and_eq_true] at n
    simp only [ROs] at h ⊢
    obtain ⟨v, r, B, C, h1, h2, h3, h4, h5⟩ := h
    exact ⟨v, r, B, C, h1, RO.cong t f (fun q b => e q ((h5 q).mpr (.inl b))) n.1 h2, ROs.cong t f (fun q c => e q ((h5 q).mpr (.inr c))) n.2 h3, h4, h5⟩
end
mutual
/-- the footprint is told up to what it holds -/
theorem RO.iff : ∀ {x : OV} {v : V} {A A' : Fp}, (∀ q, A' q ↔ A q) → RO K H F x v A → RO K H F x v A'
  | .hole, v, A, A', e, h => by simp only [RO] at h ⊢; exact fun q a => h q ((e q).mp a)
  | .fr d, v, A, A', e, h => by simp only [RO] at h ⊢; exact ⟨h.1, fun q a => h.2 q ((e q).mp a)⟩
  | .vw d, v, A, A', e, h => by simp only [RO] at h ⊢; exact ⟨h.1, fun q a => h.2 q ((e q).mp a)⟩
  | .ol xs, v, A, A', e, h => by
    simp only [RO] at h ⊢
    obtain ⟨p, vs, B, h1, h2, h3, h4, h5⟩ := h
    exact ⟨p, vs, B, h1, h2, h3, h4, fun q => (e q).trans (h5 q)⟩
  | .ot xs, v, A, A', e, h => by
    simp only [RO] at h ⊢
    obtain ⟨p, vs, h1, h2, h3⟩ := h
    exact ⟨p, vs, h1, h2, ROs.iff e h3⟩
theorem ROs.iff : ∀ {xs : List OV} {vs : List V} {A A' : Fp}, (∀ q, A' q ↔ A q) → ROs K H F xs vs A → ROs K H F xs vs A'
  | [], vs, A, A', e, h => by simp only [ROs] at h ⊢; exact ⟨h.1, fun q a => h.2 q ((e q).mp a)⟩
  | x :: xs, vs, A, A', e, h => by
    simp only [ROs] at h ⊢
    obtain ⟨v, r, B, C, h1, h2, h3, h4, h5⟩ := h
    exact ⟨v, r, B, C, h1, h2, h3, h4, fun q => (e q).trans (h5 q)⟩
end
mutual
/-- as data -/
theorem RO.rd (f : Same F H) : ∀ {x : OV} {v : V} {A : Fp} {d : D}, RO K H F x v A → x.d = some d → RD K H d v
  | .hole, v, A, d, h, e => by simp [OV.d] at e
  | .fr d', v, A, d, h, e => by simp only [OV.d, Option.some.injEq] at e; subst e; simp only [RO] at h; exact RD.mono f _ _ h.1
  | .vw d', v, A, d, h, e => by simp only [OV.d, Option.some.injEq] at e; subst e; simp only [RO] at h; exact h.1
  | .ol xs, v, A, d, h, e => by
    simp only [OV.d, Option.map_eq_some_iff] at e
    obtain ⟨ds, e1, e2⟩ := e
    subst e2
    simp only [RO] at h
    obtain ⟨p, vs, B, h1, h2, h3, h4, h5⟩ := h
    simp only [RD]
    exact ⟨p, vs, h1, h2, ROs.rd f h3 e1⟩
  | .ot xs, v, A, d, h, e => by
    simp only [OV.d, Option.map_eq_some_iff] at e
    obtain ⟨ds, e1, e2⟩ := e
    subst e2
    simp only [RO] at h
    obtain ⟨p, vs, h1, h2, h3⟩ := h
    simp only [RD]
    exact ⟨p, vs, h1, h2, ROs.rd f h3 e1⟩
theorem ROs.rd (f : Same F H) : ∀ {xs : List OV} {vs : List V} {A : Fp} {ds : List D}, ROs K H F xs vs A → OV.ds xs = some ds → RDs K H ds vs
  | [], vs, A, ds, h, e => by simp only [OV.ds, Option.some.injEq] at e; subst e; simp only [ROs] at h; simp only [RDs]; exact h.1
  | x :: xs, vs, A, ds, h, e => by
    simp only [OV.ds] at e
    simp only [ROs] at h
    obtain ⟨v, r, B, C, h1, h2, h3, h4, h5⟩ := h
    cases ex : x.d with
    | none => simp [ex] at e
    | some d =>
      cases es : OV.ds xs with
      | none => simp [ex, es] at e
      | some ds' =>
        simp only [ex, es, Option.some.injEq] at e
        subst e
        simp only [RDs]
        exact ⟨v, r, h1, RO.rd f h2 ex, ROs.rd f h3 es⟩
end
mutual
/-- data without lists does not hang on the own lists -/
theorem RD.lf {O : Fp} (ho : ∀ q, O q → ∃ vs, H q = some (.lst vs)) : ∀ {d : D} {v : V}, d.lf = true → RD K H d v → RD K (msk H O) d v
  | .non, v, n, h => by simpa only [RD] using h
  | .bl b, v, n, h => by simpa only [RD] using h
  | .int i, v, n, h => by simpa only [RD] using h
  | .str x, v, n, h => by simpa only [RD] using h
  | .tup ds, v, n, h => by
    simp only [D.lf] at n
    simp only [RD] at h ⊢
    obtain ⟨a, vs, h1, h2, h3⟩ := h
    refine ⟨a, vs, h1, msk_some.mpr ⟨fun z => ?_, h2⟩, RDs.lf ho n h3⟩
    obtain ⟨ws, e⟩ := ho a z
    rw [e] at h2; cases h2
  | .lst ds, v, n, h => by simp [D.lf] at n
  | .scr ns, v, n, h => by simp [D.lf] at n
  | .dct ks ds, v, n, h => by simp [D.lf] at n
  | .exc c, v, n, h => by simp [D.lf] at n
theorem RDs.lf {O : Fp} (ho : ∀ q, O q → ∃ vs, H q = some (.lst vs)) : ∀ {ds : List D} {vs : List V}, D.lfs ds = true → RDs K H ds vs → RDs K (msk H O) ds vs
  | [], vs, n, h => by simpa only [RDs] using h
  | d :: ds, vs, n, h => by
    simp only [D.lfs, Bool.and_eq_true] at n
    simp only [RDs] at h ⊢
    obtain ⟨v, r, h1, h2, h3⟩ := h
    exact ⟨v, r, h1, RD.lf ho n.1 h2, RDs.lf ho n.2 h3⟩
end
theorem ROs.length : ∀ {xs : List OV} {vs : List V} {A : Fp}, ROs K H F xs vs A → xs.length = vs.length
  | [], vs, A, h => by simp only [ROs] at h; simp [h.1]
  | x :: xs, vs, A, h => by
    simp only [ROs] at h
    obtain ⟨v, r, B, C, h1, h2, h3, h4, h5⟩ := h
    subst h1
    simp only [List.length_cons, ROs.length h3]
end
end PL

/-! PL2: the names, situations, what an expression's reading asks -/
namespace PL
open PySem PySem.Spec PyProof.Rows L2
abbrev Sl := L2.St
abbrev Fp.emp : Fp := fun _ => False
/-- footprints by places: apart from one another -/
structure Fam (n : Nat) (P : Nat → Fp) : Prop where
  apart : ∀ i j q, P i q → P j q → i = j
  lt : ∀ i q, P i q → i < n
def Fam.un (P : Nat → Fp) : Fp := fun q => ∃ i, P i q
def setF (P : Nat → Fp) (i : Nat) (B : Fp) : Nat → Fp := fun j => if j = i then B else P j
theorem setF_same {P : Nat → Fp} {i : Nat} {B : Fp} : setF P i B i = B := by simp [setF]
theorem setF_ne {P : Nat → Fp} {i j : Nat} {B : Fp} (h : j ≠ i) : setF P i B j = P j := by simp [setF, h]

section
variable {K : PySem.W.Frag} {H H' F F' : Hp}
/-- a list of owned trees, by places -/
structure RI (K : PySem.W.Frag) (H F : Hp) (xs : List OV) (vs : List V) (P : Nat → Fp) : Prop where
  fam : Fam xs.length P
  len : vs.length = xs.length
  at_ : ∀ i x, xs[i]? = some x → ∃ v, vs[i]? = some v ∧ RO K H F x v (P i)
theorem RI.to : ∀ {xs : List OV} {vs : List V} {P : Nat → Fp}, RI K H F xs vs P → ROs K H F xs vs (Fam.un P)
  | [], vs, P, h => by
    simp only [ROs]
    refine ⟨?_, fun p ⟨i, q⟩ => ?_⟩
    · have := h.len
      simpa using this
    · have := h.fam.lt i p q
      simp at this
  | x :: xs, vs, P, h => by
    obtain ⟨v, e1, e2⟩ := h.at_ 0 x rfl
    cases vs with
    | nil => simp at e1
    | cons w r =>
      simp at e1
      subst e1
      simp only [ROs]
      have tail : RI K H F xs r (fun i => P (i + 1)) := by
        refine ⟨⟨fun i j q a b => ?_, fun i q a => ?_⟩, ?_, fun i y e => ?_⟩
        · have := h.fam.apart _ _ q a b
          omega
        · have := h.fam.lt _ q a
          simp at this
          omega
        · have := h.len
          simpa using this
        · obtain ⟨v', e3, e4⟩ := h.at_ (i + 1) y (by simpa using e)
          exact ⟨v', by simpa using e3, e4⟩
      refine ⟨w, r, P 0, _, rfl, e2, RI.to tail, fun q a ⟨i, b⟩ => ?_, fun q => ?_⟩
      · have := h.fam.apart _ _ q a b
        omega
      · constructor
        · rintro ⟨i, a⟩
          cases i with
          | zero => exact .inl a
          | succ i => exact .inr ⟨i, a⟩
        · rintro (a | ⟨i, a⟩)
          · exact ⟨0, a⟩
          · exact ⟨i + 1, a⟩
theorem RI.of : ∀ {xs : List OV} {vs : List V} {A : Fp}, ROs K H F xs vs A → ∃ P, RI K H F xs vs P ∧ ∀ q, A q ↔ Fam.un P q
  | [], vs, A, h => by
    simp only [ROs] at h
    refine ⟨fun _ => Fp.emp, ⟨⟨fun i j q a => a.elim, fun i q a => a.elim⟩, by simp [h.1], fun i x e => by simp at e⟩, fun q => ⟨fun a => absurd a (h.2 q), fun ⟨i, a⟩ => a.elim⟩⟩
  | x :: xs, vs, A, h => by
    simp only [ROs] at h
    obtain ⟨v, r, B, C, h1, h2, h3, h4, h5⟩ := h
    subst h1
    obtain ⟨P, k1, k2⟩ := RI.of h3
    refine ⟨fun i => match i with | 0 => B | i + 1 => P i, ⟨⟨fun i j q a b => ?_, fun i q a => ?_⟩, by simp [k1.len], fun i y e => ?_⟩, fun q => ?_⟩
    · cases i with
      | zero =>
        cases j with
        | zero => rfl
        | succ j => exact absurd ((k2 q).mpr ⟨j, b⟩) (h4 q a)
      | succ i =>
        cases j with
        | zero => exact absurd ((k2 q).mpr ⟨i, a⟩) (h4 q b)
        | succ j => rw [k1.fam.apart i j q a b]
    · cases i with
      | zero => simp
      | succ i =>
        have := k1.fam.lt i q a
        simp only [List.length_cons]; omega
    · cases i with
      | zero => simp at e; subst e; exact ⟨v, rfl, h2⟩
      | succ i =>
        obtain ⟨v', e1, e2⟩ := k1.at_ i y (by simpa using e)
        exact ⟨v', by simpa using e1, e2⟩
    · rw [h5 q, k2 q]
      constructor
      · rintro (a | ⟨i, a⟩)
        · exact ⟨0, a⟩
        · exact ⟨i + 1, a⟩
      · rintro ⟨i, a⟩
        cases i with
        | zero => exact .inl a
        | succ i => exact .inr ⟨i, a⟩
theorem RI.dom {xs : List OV} {vs : List V} {P : Nat → Fp} (h : RI K H F xs vs P) : ∀ q, Fam.un P q → ∃ ws, H q = some (.lst ws) := fun q ⟨i, a⟩ => by
  have hi := h.fam.lt i q a
  obtain ⟨v, _, e2⟩ := h.at_ i xs[i] (by simp [hi])
  exact RO.dom e2 q a
theorem nvs_iff : ∀ {xs : List OV}, OV.nvs xs = true ↔ ∀ x ∈ xs, x.nv = true
  | [] => by simp [OV.nvs]
  | x :: xs => by simp [OV.nvs, nvs_iff (xs := xs)]

/-- a slot -/
def OR (K : PySem.W.Frag) (H F : Hp) (x : OV) (o : Option V) (A : Fp) : Prop := (x = .hole ∧ ∀ p, ¬ A p) ∨ ∃ v, o = some v ∧ RO K H F x v A
theorem OR.of_ro {x : OV} {v : V} {A : Fp} (h : RO K H F x v A) : OR K H F x (some v) A := .inr ⟨v, rfl, h⟩
theorem OR.hole {o : Option V} : OR K H F .hole o Fp.emp := .inl ⟨rfl, fun _ z => z⟩
theorem OR.dom {x : OV} {o : Option V} {A : Fp} (h : OR K H F x o A) : ∀ q, A q → ∃ vs, H q = some (.lst vs) := by
  rcases h with ⟨_, h⟩ | ⟨v, _, h⟩
  · exact fun q a => absurd a (h q)
  · exact fun q a => RO.dom h q a
theorem OR.mono (s : Same H H') (f : Same F F') {x : OV} {o : Option V} {A : Fp} (h : OR K H F x o A) : OR K H' F' x o A := by
  rcases h with h | ⟨v, e, h⟩
  · exact .inl h
  · exact .inr ⟨v, e, RO.mono s f h⟩
theorem OR.cong (t : ∀ q vs, H q = some (.tup vs) → H' q = some (.tup vs)) (f : Same F F') {x : OV} {o : Option V} {A : Fp} (e : ∀ q, A q → H' q = H q) (n : x.nv = true) (h : OR K H F x o A) : OR K H' F' x o A := by
  rcases h with h | ⟨v, e', h⟩
  · exact .inl h
  · exact .inr ⟨v, e', RO.cong t f e n h⟩
theorem OR.ro {x : OV} {o : Option V} {A : Fp} (h : OR K H F x o A) (n : x ≠ .hole) : ∃ v, o = some v ∧ RO K H F x v A := by
  rcases h with ⟨e, _⟩ | h
  · exact absurd e n
  · exact h
/-- the names' slots -/
structure ER (K : PySem.W.Frag) (H F : Hp) (env : List OV) (σ : Sl) (P : Nat → Fp) : Prop where
  fam : Fam env.length P
  len : σ.length = env.length
  at_ : ∀ i x, env[i]? = some x → x.nv = true ∧ ∃ o, σ[i]? = some o ∧ OR K H F x o (P i)
theorem ER.dom {env : List OV} {σ : Sl} {P : Nat → Fp} (h : ER K H F env σ P) : ∀ q, Fam.un P q → ∃ ws, H q = some (.lst ws) := fun q ⟨i, a⟩ => by
  have hi := h.fam.lt i q a
  obtain ⟨_, o, _, e2⟩ := h.at_ i env[i] (by simp [hi])
  exact OR.dom e2 q a
theorem ER.mono (s : Same H H') (f : Same F F') {env : List OV} {σ : Sl} {P : Nat → Fp} (h : ER K H F env σ P) : ER K H' F' env σ P :=
  ⟨h.fam, h.len, fun i x e => let ⟨n, o, e1, e2⟩ := h.at_ i x e; ⟨n, o, e1, OR.mono s f e2⟩⟩
theorem ER.cong (t : ∀ q vs, H q = some (.tup vs) → H' q = some (.tup vs)) (f : Same F F') {env : List OV} {σ : Sl} {P : Nat → Fp} (c : ∀ q, Fam.un P q → H' q = H q) (h : ER K H F env σ P) : ER K H' F' env σ P :=
  ⟨h.fam, h.len, fun i x e => let ⟨n, o, e1, e2⟩ := h.at_ i x e; ⟨n, o, e1, OR.cong t f (fun q a => c q ⟨i, a⟩) n e2⟩⟩
/-- one slot told anew -/
theorem ER.set {env : List OV} {σ : Sl} {P : Nat → Fp} (h : ER K H F env σ P) {i : Nat} {y : OV} {o : Option V} {B : Fp} (hi : i < env.length) (ny : y.nv = true) (hy : OR K H F y o B)
    (dj : ∀ j q, j ≠ i → P j q → ¬ B q) : ER K H F (env.set i y) (σ.set i o) (setF P i B) := by
  refine ⟨⟨fun a b q ha hb => ?_, fun a q ha => ?_⟩, by simp [h.len], fun a x e => ?_⟩
  · by_cases ea : a = i
    · by_cases eb : b = i
      · rw [ea, eb]
      · subst ea
        rw [setF_same] at ha
        rw [setF_ne eb] at hb
        exact absurd ha (dj b q eb hb)
    · by_cases eb : b = i
      · subst eb
        rw [setF_same] at hb
        rw [setF_ne ea] at ha
        exact absurd hb (dj a q ea ha)
      · rw [setF_ne ea] at ha
        rw [setF_ne eb] at hb
        exact h.fam.apart a b q ha hb
  · rw [List.length_set]
    by_cases ea : a = i
    · rw [ea]; exact hi
    · rw [setF_ne ea] at ha
      exact h.fam.lt a q ha
  · by_cases ea : a = i
    · subst ea
      rw [List.getElem?_set_self hi] at e
      have e' := Option.some.inj e
      subst e'
      refine ⟨ny, o, by rw [List.getElem?_set_self (by rw [h.len]; exact hi)], ?_⟩
      rw [setF_same]
      exact hy
    · rw [List.getElem?_set_ne (Ne.symm ea)] at e
      obtain ⟨n, o', e1, e2⟩ := h.at_ a x e
      refine ⟨n, o', by rw [List.getElem?_set_ne (Ne.symm ea)]; exact e1, ?_⟩
      rw [setF_ne ea]
      exact e2
/-- the slot keeps its value -/
theorem ER.put {env : List OV} {σ : Sl} {P : Nat → Fp} (h : ER K H F env σ P) {i : Nat} {y : OV} {o : Option V} {B : Fp} (hi : i < env.length) (ny : y.nv = true) (ho : σ[i]? = some o) (hy : OR K H F y o B)
    (dj : ∀ j q, j ≠ i → P j q → ¬ B q) : ER K H F (env.set i y) σ (setF P i B) := by
  have q := h.set hi ny hy dj
  have e : σ.set i o = σ := by
    apply List.ext_getElem?
    intro j
    by_cases ej : i = j
    · subst ej
      rw [List.getElem?_set_self (by rw [h.len]; exact hi), ho]
    · rw [List.getElem?_set_ne ej]
  rw [e] at q
  exact q
end

/-! ### what is so ahead of an expression -/
/-- all that is owned: the names' lists, and R, what lies by -/
abbrev own (P : Nat → Fp) (R : Fp) : Fp := fun q => Fam.un P q ∨ R q
structure At (K : PySem.W.Frag) (R : Fp) (H : Hp) (P : Nat → Fp) (σ : Sl) (env : List OV) : Prop where
  er : ER K H (msk H (own P R)) env σ P
  rd : ∀ q, R q → ∃ vs, H q = some (.lst vs)
  dj : ∀ q, Fam.un P q → ¬ R q
/-- .. and behind it: the value v, as the tree x, with the own lists B -/
structure Go (K : PySem.W.Frag) (R : Fp) (H : Hp) (P : Nat → Fp) (σ : Sl) (H' : Hp) (P' : Nat → Fp) (env' : List OV) (B : Fp) : Prop where
  same : Same H H'
  er : ER K H' (msk H' (own P' fun q => B q ∨ R q)) env' σ P'
  dj : ∀ q, Fam.un P' q → ¬ B q
  fp : ∀ q, Fam.un P' q ∨ B q → Fam.un P q ∨ H q = none
  bd : ∀ q, B q → ∃ vs, H' q = some (.lst vs)
section
variable {K : PySem.W.Frag} {R B : Fp} {H H' : Hp} {P P' : Nat → Fp} {σ : Sl} {env env' : List OV}
theorem Go.refl (a : At K R H P σ env) : Go K R H P σ H P env Fp.emp :=
  ⟨Same.refl _, a.er.mono (Same.refl _) (msk_sub fun q z => z.elim .inl fun z => z.elim (fun z => z.elim) .inr), fun _ _ z => z, fun q z => z.elim .inl fun z => z.elim, fun q z => z.elim⟩
theorem At.domR (a : At K R H P σ env) {q : Addr} (h : H q = none) : ¬ R q := fun z => by
  obtain ⟨vs, e⟩ := a.rd q z
  rw [h] at e; cases e
/-- the situation behind it, its lists lying by -/
theorem Go.at (a : At K R H P σ env) (g : Go K R H P σ H' P' env' B) : At K (fun q => B q ∨ R q) H' P' σ env' := by
  refine ⟨g.er, fun q z => ?_, fun q z => ?_⟩
  · rcases z with z | z
    · exact g.bd q z
    · obtain ⟨vs, e⟩ := a.rd q z
      exact ⟨vs, g.same _ _ e⟩
  · rintro (b | r)
    · exact g.dj q z b
    · rcases g.fp q (.inl z) with w | w
      · exact a.dj q w r
      · exact a.domR w r
theorem Go.bR (a : At K R H P σ env) (g : Go K R H P σ H' P' env' B) : ∀ q, B q → ¬ R q := fun q b r => by
  rcases g.fp q (.inr b) with w | w
  · exact a.dj q w r
  · exact a.domR w r
/-- the frozen part goes on -/
theorem Go.frz (a : At K R H P σ env) (g : Go K R H P σ H' P' env' B) : Same (msk H (own P R)) (msk H' (own P' fun q => B q ∨ R q)) := msk_step g.same fun q z => by
  rcases z with z | z | z
  · exact (g.fp q (.inl z)).elim (fun w => .inl (.inl w)) .inr
  · exact (g.fp q (.inr z)).elim (fun w => .inl (.inl w)) .inr
  · exact .inl (.inr z)
/-- two after one another -/
theorem Go.trans {B2 : Fp} {H2 : Hp} {P2 : Nat → Fp} {env2 : List OV} (a : At K R H P σ env) (g : Go K R H P σ H' P' env' B) (g2 : Go K (fun q => B q ∨ R q) H' P' σ H2 P2 env2 B2) :
    Go K R H P σ H2 P2 env2 (fun q => B q ∨ B2 q) := by
  refine ⟨g.same.trans g2.same, g2.er.mono (Same.refl _) (msk_sub fun q z => ?_), fun q z w => ?_, fun q z => ?_, fun q z => ?_⟩
  · rcases z with z | (z | z) | z
    · exact .inl z
    · exact .inr (.inr (.inl z))
    · exact .inr (.inl z)
    · exact .inr (.inr (.inr z))
  · rcases w with w | w
    · rcases g2.fp q (.inl z) with k | k
      · exact g.dj q k w
      · obtain ⟨vs, e⟩ := g.bd q w
        rw [k] at e; cases e
    · exact g2.dj q z w
  · rcases z with z | z | z
    · rcases g2.fp q (.inl z) with k | k
      · exact g.fp q (.inl k)
      · exact .inr (g.same.free k)
    · exact g.fp q (.inr z)
    · rcases g2.fp q (.inr z) with k | k
      · exact g.fp q (.inl k)
      · exact .inr (g.same.free k)
  · rcases z with z | z
    · obtain ⟨vs, e⟩ := g.bd q z
      exact ⟨vs, g2.same _ _ e⟩
    · exact g2.bd q z
/-- the value's lists are let go, or told otherwise -/
theorem Go.weak {B2 : Fp} (g : Go K R H P σ H' P' env' B) (h : ∀ q, B2 q → B q) : Go K R H P σ H' P' env' B2 :=
  ⟨g.same, g.er.mono (Same.refl _) (msk_sub fun q z => z.elim .inl fun z => .inr (z.elim (fun z => .inl (h q z)) .inr)), fun q z w => g.dj q z (h q w), fun q z => g.fp q (z.elim .inl fun z => .inr (h q z)), fun q z => g.bd q (h q z)⟩
/-- a new object is laid (a tuple, or a list of our own) -/
theorem Go.new {p : Addr} {o : HO} {B2 : Fp} (a : At K R H P σ env) (g : Go K R H P σ H' P' env' B) (hp : H' p = none) (h : ∀ q, B2 q → B q ∨ (q = p ∧ ∃ vs, o = .lst vs)) : Go K R H P σ (upd H' p o) P' env' B2 := by
  have s : Same H' (upd H' p o) := fun b u e => by rw [upd_ne (ne_of_none e hp)]; exact e
  have np : ∀ q, Fam.un P' q → q ≠ p := fun q z e => by
    obtain ⟨vs, k⟩ := g.er.dom q z
    rw [e, hp] at k; cases k
  refine ⟨g.same.trans s, g.er.mono s (msk_step s fun q z => ?_), fun q z w => ?_, fun q z => ?_, fun q z => ?_⟩
  · rcases z with z | z | z
    · exact .inl (.inl z)
    · rcases h q z with b | ⟨e, _⟩
      · exact .inl (.inr (.inl b))
      · rw [e]; exact .inr hp
    · exact .inl (.inr (.inr z))
  · rcases h q w with b | ⟨e, _⟩
    · exact g.dj q z b
    · exact np q z e
  · rcases z with z | z
    · exact g.fp q (.inl z)
    · rcases h q z with b | ⟨e, _⟩
      · exact g.fp q (.inr b)
      · rw [e]; exact .inr (g.same.free hp)
  · rcases h q z with b | ⟨e, vs, eo⟩
    · obtain ⟨vs, k⟩ := g.bd q b
      exact ⟨vs, s _ _ k⟩
    · exact ⟨vs, by rw [e, upd_same, eo]⟩
end
end PL

/-! PL3: what an expression does to the names, and that the machine does it: names, constants, operators -/
namespace PL
open PySem PySem.Spec PyProof.Rows L2

/-- an expression's end: a value and the names, or an exception of that class -/
inductive Ou where
  | ok (x : OV) (env : List OV) | exc (c : Str)
abbrev EF := List OV → Option Ou
inductive OuA where
  | ok (xs : List OV) (env : List OV) | exc (c : Str)
abbrev AF := List OV → Option OuA
def bnd (r : Option Ou) (k : OV → List OV → Option Ou) : Option Ou := match r with
  | some (.ok x e) => k x e
  | some (.exc c) => some (.exc c)
  | none => none
def bndA (r : Option OuA) (k : List OV → List OV → Option Ou) : Option Ou := match r with
  | some (.ok x e) => k x e
  | some (.exc c) => some (.exc c)
  | none => none
def bndC (r : Option Ou) (k : OV → List OV → Option OuA) : Option OuA := match r with
  | some (.ok x e) => k x e
  | some (.exc c) => some (.exc c)
  | none => none
def bndCA (r : Option OuA) (k : List OV → List OV → Option OuA) : Option OuA := match r with
  | some (.ok x e) => k x e
  | some (.exc c) => some (.exc c)
  | none => none
@[simp] theorem bnd_ok {x : OV} {e : List OV} {k : OV → List OV → Option Ou} : bnd (some (.ok x e)) k = k x e := rfl
@[simp] theorem bnd_exc {c : Str} {k : OV → List OV → Option Ou} : bnd (some (.exc c)) k = some (.exc c) := rfl
@[simp] theorem bnd_none {k : OV → List OV → Option Ou} : bnd none k = none := rfl
@[simp] theorem bndA_ok {x : List OV} {e : List OV} {k : List OV → List OV → Option Ou} : bndA (some (.ok x e)) k = k x e := rfl
@[simp] theorem bndA_exc {c : Str} {k : List OV → List OV → Option Ou} : bndA (some (.exc c)) k = some (.exc c) := rfl
@[simp] theorem bndA_none {k : List OV → List OV → Option Ou} : bndA none k = none := rfl
@[simp] theorem bndC_ok {x : OV} {e : List OV} {k : OV → List OV → Option OuA} : bndC (some (.ok x e)) k = k x e := rfl
@[simp] theorem bndC_exc {c : Str} {k : OV → List OV → Option OuA} : bndC (some (.exc c)) k = some (.exc c) := rfl
@[simp] theorem bndC_none {k : OV → List OV → Option OuA} : bndC none k = none := rfl
@[simp] theorem bndCA_ok {x : List OV} {e : List OV} {k : List OV → List OV → Option OuA} : bndCA (some (.ok x e)) k = k x e := rfl
@[simp] theorem bndCA_exc {c : Str} {k : List OV → List OV → Option OuA} : bndCA (some (.exc c)) k = some (.exc c) := rfl
@[simp] theorem bndCA_none {k : List OV → List OV → Option OuA} : bndCA none k = none := rfl

def XPost (X : Cx) (W : WX) (H : Hp) (σ : Sl) (c : Str) : Prop := ∀ H' C, Same H H' → X.mg c = some (.ref C) → W (.ref C) none σ H'
def EPost (X : Cx) (W : WX) (R : Fp) (H : Hp) (P : Nat → Fp) (σ : Sl) (r : Option Ou) (Q : VK) : Prop := match r with
  | some (.ok x env') => ∀ v H' P' B, Go X.K R H P σ H' P' env' B → RO X.K H' (msk H' (own P' fun q => B q ∨ R q)) x v B → Q v H'
  | some (.exc c) => XPost X W H σ c
  | none => False
def BPost (X : Cx) (W : WX) (R : Fp) (H : Hp) (P : Nat → Fp) (σ : Sl) (r : Option Ou) (Q : Bool → Hp → Prop) : Prop := match r with
  | some (.ok x env') => ∃ b, x = .fr (.bl b) ∧ ∀ H' P', Go X.K R H P σ H' P' env' Fp.emp → Q b H'
  | some (.exc c) => XPost X W H σ c
  | none => False
def APost (X : Cx) (W : WX) (R : Fp) (H : Hp) (P : Nat → Fp) (σ : Sl) (r : Option OuA) (Q : List V → Hp → Prop) : Prop := match r with
  | some (.ok xs env') => ∀ vs H' P' B, Go X.K R H P σ H' P' env' B → ROs X.K H' (msk H' (own P' fun q => B q ∨ R q)) xs vs B → Q vs H'
  | some (.exc c) => XPost X W H σ c
  | none => False

/-- the machine does f at e -/
def SE (X : Cx) (W : WX) (e : Expr) (f : EF) : Prop := ∃ t : TE, PE X e t ∧ ∀ R H P σ env, At X.K R H P σ env → ∀ Q : VK, EPost X W R H P σ (f env) Q → t σ H Q
def STe (X : Cx) (W : WX) (e : Expr) (f : EF) : Prop := ∃ t : TT, PT X e t ∧ ∀ R H P σ env, At X.K R H P σ env → ∀ Q : Bool → Hp → Prop, BPost X W R H P σ (f env) Q → t σ H Q
def SWt (X : Cx) (W : WX) (e : Expr) (f : EF) : Prop := ∃ t : TT, PW X e t ∧ ∀ R H P σ env, At X.K R H P σ env → ∀ Q : Bool → Hp → Prop, BPost X W R H P σ (f env) Q → t σ H Q
def SA (X : Cx) (W : WX) (es : List Expr) (f : AF) : Prop := ∃ t : TA, PA X es t ∧ ∀ R H P σ env, At X.K R H P σ env → ∀ Q : List V → Hp → Prop, APost X W R H P σ (f env) Q → t σ H Q

section
variable {X : Cx} {W : WX} {R B : Fp} {H H' : Hp} {P P' : Nat → Fp} {σ : Sl} {env env' : List OV} {Q : VK}

theorem XPost.trans {c : Str} (s : Same H H') (h : XPost X W H σ c) : XPost X W H' σ c := fun H2 C s2 e => h H2 C (s.trans s2) e

/-- atoms -/
def D.at : D → Option V
  | .non => some .non
  | .bl b => some (.bl b)
  | .int i => some (.int i)
  | .str x => some (.str x)
  | _ => none
theorem rd_at {K : PySem.W.Frag} {d : D} {v : V} (h : d.at = some v) : RD K H d v := by
  cases d <;> simp [D.at] at h <;> subst h <;> simp [RD]
theorem at_rd {K : PySem.W.Frag} {d : D} {v w : V} (h : d.at = some v) (r : RD K H d w) : w = v := by
  cases d <;> simp [D.at] at h <;> subst h <;> simpa [RD] using r
/-- an atom told -/
theorem EPost.atom {d : D} {v : V} (h : d.at = some v) (hp : EPost X W R H P σ (some (.ok (.fr d) env')) Q) (g : Go X.K R H P σ H' P' env' B) : Q v H' :=
  hp v H' P' Fp.emp (g.weak fun q z => z.elim) ⟨rd_at h, fun q z => z⟩

/-! ### constants -/
theorem SE.atom {e : Expr} {d : D} {v : V} (hv : d.at = some v) (h : PE X e (tC v)) : SE X W e (fun env => some (.ok (.fr d) env)) :=
  ⟨_, h, fun R H P σ env a Q hp => hp.atom hv (Go.refl a)⟩

/-! ### names -/
/-- a name as it is read: owned things are viewed -/
def OV.view : OV → Option OV
  | .hole => none
  | .fr d => some (.fr d)
  | x => x.d.map fun d => if d.lf then .fr d else .vw d
def fVar (i : Nat) : EF := fun env => (env[i]?).bind fun x => x.view.map fun y => .ok y env
theorem At.out (a : At X.K R H P σ env) : ∀ q, own P R q → ∃ vs, H q = some (.lst vs) := fun q z => z.elim (a.er.dom q) (a.rd q)
theorem own_emp {P : Nat → Fp} {R : Fp} : ∀ q, own P (fun q => Fp.emp q ∨ R q) q ↔ own P R q := fun q => by simp [own, Fp.emp]
theorem RO.sub {K : PySem.W.Frag} {O O' : Fp} {x : OV} {v : V} {A : Fp} (h : ∀ q, O' q → O q) (r : RO K H (msk H O) x v A) : RO K H (msk H O') x v A := r.mono (Same.refl _) (msk_sub h)
theorem ROs.sub {K : PySem.W.Frag} {O O' : Fp} {x : List OV} {v : List V} {A : Fp} (h : ∀ q, O' q → O q) (r : ROs K H (msk H O) x v A) : ROs K H (msk H O') x v A := r.mono (Same.refl _) (msk_sub h)
theorem view_ok {K : PySem.W.Frag} {O A : Fp} {x y : OV} {v : V} (ho : ∀ q, O q → ∃ vs, H q = some (.lst vs)) (h : x.view = some y) (r : RO K H (msk H O) x v A) : RO K H (msk H O) y v Fp.emp := by
  have vw : ∀ {d : D}, x.d = some d → (if d.lf then OV.fr d else .vw d) = y → RO K H (msk H O) y v Fp.emp := fun {d} e1 e2 => by
    have q := RO.rd msk_same r e1
    subst e2
    split
    · rename_i hl
      exact ⟨RD.lf ho hl q, fun _ z => z⟩
    · exact ⟨q, fun _ z => z⟩
  cases x with
  | hole => simp [OV.view] at h
  | fr d =>
    simp [OV.view] at h
    subst h
    simp only [RO] at r ⊢
    exact ⟨r.1, fun _ z => z⟩
  | vw d => simp only [OV.view, OV.d, Option.map_some, Option.some.injEq] at h; exact vw rfl h
  | ol xs =>
    simp only [OV.view, Option.map_eq_some_iff] at h
    obtain ⟨d, e1, e2⟩ := h
    exact vw e1 e2
  | ot xs =>
    simp only [OV.view, Option.map_eq_some_iff] at h
    obtain ⟨d, e1, e2⟩ := h
    exact vw e1 e2
theorem view_hole {x y : OV} (h : x.view = some y) : x ≠ .hole := by rintro rfl; simp [OV.view] at h
theorem SE.var {i : Nat} {x : Str} {pos : Pos} (h : PE X (.Name x pos) (tVar i)) : SE X W (.Name x pos) (fVar i) := by
  refine ⟨_, h, fun R H P σ env a Q hp => ?_⟩
  unfold fVar at hp
  cases e : env[i]? with
  | none => rw [e] at hp; exact hp.elim
  | some z =>
    rw [e] at hp
    cases ev : z.view with
    | none => simp only [Option.bind_some, ev, Option.map_none] at hp; exact hp.elim
    | some y =>
      simp only [Option.bind_some, ev, Option.map_some] at hp
      obtain ⟨n, o, e1, e2⟩ := a.er.at_ i z e
      obtain ⟨v, rfl, r⟩ := e2.ro (view_hole ev)
      refine ⟨v, e1, hp v H P Fp.emp (Go.refl a) ?_⟩
      exact (view_ok a.out ev r).sub fun q z => (own_emp q).mp z

/-! ### trees told as data, by two ways to read -/
/-- f of two, by data -/
def op2 (fa fb : EF) (op : D → D → Option D) : EF := fun env => bnd (fa env) fun x e1 => bnd (fb e1) fun y e2 =>
  match x.d, y.d with
  | some a, some b => (op a b).map fun z => .ok (.fr z) e2
  | _, _ => none
def op1 (fa : EF) (op : D → Option D) : EF := fun env => bnd (fa env) fun x e1 =>
  match x.d with
  | some a => (op a).map fun z => .ok (.fr z) e1
  | none => none
theorem EPost.none_ {Q : VK} (h : EPost X W R H P σ none Q) {α : Prop} : α := h.elim

/-- two expressions, then what is done with their values -/
theorem two {a b : Expr} {ta tb : TE} {fa fb : EF} {k : OV → OV → List OV → Option Ou} (sa : ∀ R H P σ env, At X.K R H P σ env → ∀ Q : VK, EPost X W R H P σ (fa env) Q → ta σ H Q)
    (sb : ∀ R H P σ env, At X.K R H P σ env → ∀ Q : VK, EPost X W R H P σ (fb env) Q → tb σ H Q) (at_ : At X.K R H P σ env) {T : V → V → Hp → Prop}
    (hx : ∀ c, fa env = some (.exc c) → XPost X W H σ c)
    (hy : ∀ x e1 c, fa env = some (.ok x e1) → fb e1 = some (.exc c) → XPost X W H σ c)
    (hn : fa env ≠ none) (hn2 : ∀ x e1, fa env = some (.ok x e1) → fb e1 ≠ none)
    (h : ∀ x e1 y e2 v w H2 P2 B1 B2, fa env = some (.ok x e1) → fb e1 = some (.ok y e2) → Go X.K R H P σ H2 P2 e2 (fun q => B1 q ∨ B2 q) → (∀ q, B1 q → ¬ B2 q) →
      RO X.K H2 (msk H2 (own P2 fun q => (B1 q ∨ B2 q) ∨ R q)) x v B1 → RO X.K H2 (msk H2 (own P2 fun q => (B1 q ∨ B2 q) ∨ R q)) y w B2 → T v w H2) :
    ta σ H fun v H1 => tb σ H1 fun w H2 => T v w H2 := by
  refine sa R H P σ env at_ _ ?_
  cases ea : fa env with
  | none => exact absurd ea hn
  | some r =>
    cases r with
    | exc c => exact hx c ea
    | ok x e1 =>
      intro v H1 P1 B1 g1 r1
      have a1 := g1.at at_
      refine sb _ H1 P1 σ e1 a1 _ ?_
      cases eb : fb e1 with
      | none => exact absurd eb (hn2 x e1 ea)
      | some r =>
        cases r with
        | exc c => exact (hy x e1 c ea eb).trans g1.same
        | ok y e2 =>
          intro w H2 P2 B2 g2 r2
          have s := g2.frz a1
          refine h x e1 y e2 v w H2 P2 B1 B2 ea eb (g1.trans at_ g2) (fun q b1 b2 => g2.bR a1 q b2 (.inl b1)) ?_ ?_
          · refine (r1.mono g2.same s).sub fun q z => ?_
            rcases z with z | (z | z) | z
            · exact .inl z
            · exact .inr (.inr (.inl z))
            · exact .inr (.inl z)
            · exact .inr (.inr (.inr z))
          · refine r2.sub fun q z => ?_
            rcases z with z | (z | z) | z
            · exact .inl z
            · exact .inr (.inr (.inl z))
            · exact .inr (.inl z)
            · exact .inr (.inr (.inr z))
/-- an operator by data, its answer an atom or data that stands in the heap -/
theorem SE.op2 {a b e : Expr} {fa fb : EF} {op : D → D → Option D} (sa : SE X W a fa) (sb : SE X W b fb) {r : R2} (he : ∀ ta tb, PE X a ta → PE X b tb → PE X e (tOp r ta tb))
    (hr : ∀ da db z v w H (Q : VK), op da db = some z → RD X.K H da v → RD X.K H db w → (∀ u, z.at = some u → Q u H) → r v w H Q)
    (hz : ∀ da db z, op da db = some z → ∃ u, z.at = some u) : SE X W e (PL.op2 fa fb op) := by
  obtain ⟨ta, pa, qa⟩ := sa
  obtain ⟨tb, pb, qb⟩ := sb
  refine ⟨_, he ta tb pa pb, fun R H P σ env at_ Q hp => ?_⟩
  unfold PL.op2 at hp
  refine two (a := a) (b := b) (T := fun v w H2 => r v w H2 Q) (k := fun _ _ _ => none) qa qb at_ (fun c e => ?_) (fun x e1 c e e' => ?_) (fun e => ?_) (fun x e1 e e' => ?_) (fun x e1 y e2 v w H2 P2 B1 B2 ea eb g dj r1 r2 => ?_)
  · rw [e] at hp; exact hp
  · rw [e, bnd_ok, e'] at hp; exact hp
  · rw [e] at hp; exact hp
  · rw [e, bnd_ok, e'] at hp; exact hp
  · rw [ea, bnd_ok, eb, bnd_ok] at hp
    cases ex : x.d with
    | none => rw [ex] at hp; exact hp.elim
    | some da =>
      cases ey : y.d with
      | none => rw [ex, ey] at hp; exact hp.elim
      | some db =>
        cases ez : op da db with
        | none => simp only [ex, ey, ez, Option.map_none] at hp; exact hp.elim
        | some z =>
          simp only [ex, ey, ez, Option.map_some] at hp
          refine hr da db z v w H2 Q ez (r1.rd msk_same ex) (r2.rd msk_same ey) fun u hu => ?_
          exact hp.atom hu g
theorem SE.op1 {a e : Expr} {fa : EF} {op : D → Option D} (sa : SE X W a fa) {r : V → Hp → VK → Prop} (he : ∀ ta, PE X a ta → PE X e (tUn r ta))
    (hr : ∀ da z v H (Q : VK), op da = some z → RD X.K H da v → (∀ u, z.at = some u → Q u H) → r v H Q) : SE X W e (PL.op1 fa op) := by
  obtain ⟨ta, pa, qa⟩ := sa
  refine ⟨_, he ta pa, fun R H P σ env at_ Q hp => ?_⟩
  unfold PL.op1 at hp
  refine qa R H P σ env at_ _ ?_
  cases ea : fa env with
  | none => rw [ea] at hp; exact hp
  | some s =>
    cases s with
    | exc c => rw [ea] at hp; exact hp
    | ok x e1 =>
      rw [ea, bnd_ok] at hp
      intro v H1 P1 B1 g1 r1
      cases ex : x.d with
      | none => rw [ex] at hp; exact hp.elim
      | some da =>
        cases ez : op da with
        | none => simp only [ex, ez, Option.map_none] at hp; exact hp.elim
        | some z =>
          simp only [ex, ez, Option.map_some] at hp
          exact hr da z v H1 Q ez (r1.rd msk_same ex) fun u hu => hp.atom hu g1
/-- two rules for one expression -/
theorem pe_or2 {e : Expr} {t u : TE} (h : PE X e t) (h' : PE X e u) : PE X e (fun σ H Q => t σ H Q ∨ u σ H Q) :=
  ⟨fun pins s σ H Q I q => q.elim (fun q => h.run pins s σ H Q I q) fun q => h'.run pins s σ H Q I q⟩
end
end PL

/-! PL4: operators on data -/
namespace PL
open PySem PySem.Spec PyProof.Rows L2

/-! ### == -/
mutual
/-- Python's == of data -/
def D.eq : D → D → Bool
  | .non, .non => true
  | .bl a, .bl b => a == b
  | .bl a, .int j => (if a then 1 else 0) == j
  | .int i, .bl b => i == (if b then 1 else 0)
  | .int i, .int j => i == j
  | .lst xs, .lst ys => D.eqs xs ys
  | .tup xs, .tup ys => D.eqs xs ys
  | _, _ => false
def D.eqs : List D → List D → Bool
  | [], [] => true
  | x :: xs, y :: ys => D.eq x y && D.eqs xs ys
  | _, _ => false
end
mutual
/-- data that == may be asked of, of so many levels -/
def D.sh : D → Nat → Bool
  | .non, _ => true
  | .bl _, _ => true
  | .int _, _ => true
  | .tup xs, n + 1 => D.shs xs n
  | .lst xs, n + 1 => D.shs xs n
  | _, _ => false
def D.shs : List D → Nat → Bool
  | [], _ => true
  | x :: xs, n => x.sh n && D.shs xs n
end
mutual
def D.py : D → PyData
  | .non => .none
  | .bl b => .bool b
  | .int i => .int i
  | .tup xs => .tuple (D.pys xs)
  | .lst xs => .list (D.pys xs)
  | _ => .none
def D.pys : List D → List PyData
  | [] => []
  | x :: xs => x.py :: D.pys xs
end
mutual
theorem py_lay : ∀ {d : D} {n : Nat}, d.sh n = true → d.py.canLay0 = true ∧ d.py.depth ≤ n + 1
  | .non, n, h => by simp [D.py, PyData.canLay0, PyData.depth]
  | .bl _, n, h => by simp [D.py, PyData.canLay0, PyData.depth]
  | .int _, n, h => by simp [D.py, PyData.canLay0, PyData.depth]
  | .str _, n, h => by simp [D.sh] at h
  | .scr _, n, h => by simp [D.sh] at h
  | .dct _ _, n, h => by simp [D.sh] at h
  | .exc _, n, h => by simp [D.sh] at h
  | .tup xs, 0, h => by simp [D.sh] at h
  | .lst xs, 0, h => by simp [D.sh] at h
  | .tup xs, n + 1, h => by
    simp only [D.sh] at h
    have q := pys_lay h
    simp only [D.py, PyData.canLay0, PyData.depth]
    exact ⟨q.1, by omega⟩
  | .lst xs, n + 1, h => by
    simp only [D.sh] at h
    have q := pys_lay h
    simp only [D.py, PyData.canLay0, PyData.depth]
    exact ⟨q.1, by omega⟩
theorem pys_lay : ∀ {ds : List D} {n : Nat}, D.shs ds n = true → PyData.canLayAll0 (D.pys ds) = true ∧ PyData.depthAll (D.pys ds) ≤ n + 1
  | [], n, h => by simp [D.pys, PyData.canLayAll0, PyData.depthAll]
  | d :: ds, n, h => by
    simp only [D.shs, Bool.and_eq_true] at h
    have q1 := py_lay h.1
    have q2 := pys_lay h.2
    simp only [D.pys, PyData.canLayAll0, PyData.depthAll, Bool.and_eq_true]
    exact ⟨⟨q1.1, q2.1⟩, by omega⟩
end
mutual
theorem py_eqv : ∀ {a b : D} {n m : Nat}, a.sh n = true → b.sh m = true → PyData.eqv a.py b.py = D.eq a b
  | .str _, _, n, m, h, _ => by simp [D.sh] at h
  | .scr _, _, n, m, h, _ => by simp [D.sh] at h
  | .dct _ _, _, n, m, h, _ => by simp [D.sh] at h
  | .exc _, _, n, m, h, _ => by simp [D.sh] at h
  | .tup _, _, 0, m, h, _ => by simp [D.sh] at h
  | .lst _, _, 0, m, h, _ => by simp [D.sh] at h
  | .non, b, n, m, _, h => by cases b <;> simp [D.sh] at h <;> simp [D.py, PyData.eqv, D.eq]
  | .bl _, b, n, m, _, h => by cases b <;> simp [D.sh] at h <;> simp [D.py, PyData.eqv, D.eq]
  | .int _, b, n, m, _, h => by cases b <;> simp [D.sh] at h <;> simp [D.py, PyData.eqv, D.eq]
  | .tup xs, b, n + 1, m, h1, h => by
    cases b with
    | tup ys =>
      cases m with
      | zero => simp [D.sh] at h
      | succ m =>
        simp only [D.sh] at h h1
        simp only [D.py, PyData.eqv, D.eq]
        exact pys_eqv h1 h
    | _ => simp [D.sh] at h <;> simp [D.py, PyData.eqv, D.eq]
  | .lst xs, b, n + 1, m, h1, h => by
    cases b with
    | lst ys =>
      cases m with
      | zero => simp [D.sh] at h
      | succ m =>
        simp only [D.sh] at h h1
        simp only [D.py, PyData.eqv, D.eq]
        exact pys_eqv h1 h
    | _ => simp [D.sh] at h <;> simp [D.py, PyData.eqv, D.eq]
theorem pys_eqv : ∀ {a b : List D} {n m : Nat}, D.shs a n = true → D.shs b m = true → PyData.eqvAll (D.pys a) (D.pys b) = D.eqs a b
  | [], [], n, m, _, _ => by simp [D.pys, PyData.eqvAll, D.eqs]
  | [], _ :: _, n, m, _, _ => by simp [D.pys, PyData.eqvAll, D.eqs]
  | _ :: _, [], n, m, _, _ => by simp [D.pys, PyData.eqvAll, D.eqs]
  | x :: xs, y :: ys, n, m, h1, h2 => by
    simp only [D.shs, Bool.and_eq_true] at h1 h2
    simp only [D.pys, PyData.eqvAll, D.eqs, py_eqv h1.1 h2.1, pys_eqv h1.2 h2.2]
end
mutual
theorem RD.dp {K : PySem.W.Frag} {H : Hp} : ∀ {d : D} {n : Nat} {v : V}, d.sh n = true → RD K H d v → Dp K H v d.py
  | .non, n, v, h, r => by simp only [RD] at r; subst r; simp only [D.py]; exact .non
  | .bl b, n, v, h, r => by simp only [RD] at r; subst r; simp only [D.py]; exact .bl b
  | .int i, n, v, h, r => by simp only [RD] at r; subst r; simp only [D.py]; exact .int i
  | .str _, n, v, h, r => by simp [D.sh] at h
  | .scr _, n, v, h, r => by simp [D.sh] at h
  | .dct _ _, n, v, h, r => by simp [D.sh] at h
  | .exc _, n, v, h, r => by simp [D.sh] at h
  | .tup xs, 0, v, h, r => by simp [D.sh] at h
  | .lst xs, 0, v, h, r => by simp [D.sh] at h
  | .tup xs, n + 1, v, h, r => by
    simp only [D.sh] at h
    simp only [RD] at r
    obtain ⟨a, vs, h1, h2, h3⟩ := r
    subst h1
    simp only [D.py]
    exact .tup (.of h2) (RDs.dp h h3)
  | .lst xs, n + 1, v, h, r => by
    simp only [D.sh] at h
    simp only [RD] at r
    obtain ⟨a, vs, h1, h2, h3⟩ := r
    subst h1
    simp only [D.py]
    exact .lst (.of h2) (RDs.dp h h3)
theorem RDs.dp {K : PySem.W.Frag} {H : Hp} : ∀ {ds : List D} {n : Nat} {vs : List V}, D.shs ds n = true → RDs K H ds vs → DpAll K H vs (D.pys ds)
  | [], n, vs, h, r => by simp only [RDs] at r; subst r; simp only [D.pys]; exact .nil
  | d :: ds, n, vs, h, r => by
    simp only [D.shs, Bool.and_eq_true] at h
    simp only [RDs] at r
    obtain ⟨v, w, h1, h2, h3⟩ := r
    subst h1
    simp only [D.pys]
    exact .cons (RD.dp h.1 h2) (RDs.dp h.2 h3)
end
theorem py_shaped {d : D} (h : d.sh 20 = true) : SeqAt.shaped d.py = true := by
  have q := py_lay h
  unfold SeqAt.shaped
  rw [Bool.and_eq_true]
  exact ⟨q.1, decide_eq_true (by omega)⟩
def D.eqv (a b : D) : Option Bool := if a.sh 20 && b.sh 20 then some (D.eq a b) else none

/-! ### numbers -/
def mulOk (i j : Int) : Bool := decide (i.natAbs < 2 ^ 64) || decide (j.natAbs < 2 ^ 64) || decide (i.natAbs.log2 + j.natAbs.log2 < 1000000)
theorem mulOk.ok {i j : Int} (h : mulOk i j = true) : IntMulOk i j := by
  unfold mulOk at h
  simp only [Bool.or_eq_true, decide_eq_true_eq] at h
  rcases h with (h | h) | h
  · exact .of_left (intBits_le_64 (by omega) (by omega))
  · exact .of_right (intBits_le_64 (by omega) (by omega))
  · exact CMulW.ok h
def divOk (j : Int) : Bool := decide (j ≠ 0) && decide (j.natAbs.log2 < 9000)
def powOk (i j : Int) : Bool := decide (0 ≤ j) && decide (j ≤ 1000000) && decide (i.natAbs < 2 ^ 64)
section
variable {X : Cx}
theorem op_mulG : OpR X (binaryOp .Mult) (rI (fun i j => mulOk i j = true) fun i j => .int (i * j)) := opI fun _ _ _ _ _ _ _ hc q => mul_int q (mulOk.ok hc)
theorem op_fdivG : OpR X (binaryOp .FloorDiv) (rI (fun _ j => divOk j = true) fun i j => .int (i.fdiv j)) := opI fun i j _ _ _ _ _ hc q => by
  simp only [divOk, Bool.and_eq_true, decide_eq_true_eq] at hc
  exact floordiv_int hc.1 q (.inl (PyProof.noPylong_of_log2 hc.2))
theorem op_modG : OpR X (binaryOp .Mod) (rI (fun _ j => j ≠ 0) fun i j => .int (i.fmod j)) := op_modN
theorem op_powG : OpR X (binaryOp .Pow) (rI (fun i j => powOk i j = true) fun i j => .int (i ^ j.toNat)) := opI fun _ _ _ _ _ _ _ hc q => by
  simp only [powOk, Bool.and_eq_true, decide_eq_true_eq] at hc
  exact pow_int_small hc.1.1 hc.1.2 hc.2 q
end
/-- two-place operators whose answer is an atom -/
inductive O2 where
  | add | sub | mul | fdiv | mod | pow | lt | le | gt | ge | eq | ne | inn | nin | isn | non
  deriving DecidableEq
def D.flat : D → Bool
  | .non => true | .bl _ => true | .int _ => true | _ => false
def D.isN : D → Bool
  | .non => true | _ => false
def O2.f : O2 → D → D → Option D
  | .add, .int i, .int j => some (.int (i + j))
  | .sub, .int i, .int j => some (.int (i - j))
  | .mul, .int i, .int j => if mulOk i j then some (.int (i * j)) else none
  | .fdiv, .int i, .int j => if divOk j then some (.int (i.fdiv j)) else none
  | .mod, .int i, .int j => if j = 0 then none else some (.int (i.fmod j))
  | .pow, .int i, .int j => if powOk i j then some (.int (i ^ j.toNat)) else none
  | .lt, .int i, .int j => some (.bl (decide (i < j)))
  | .le, .int i, .int j => some (.bl (decide (i ≤ j)))
  | .gt, .int i, .int j => some (.bl (decide (j < i)))
  | .ge, .int i, .int j => some (.bl (decide (j ≤ i)))
  | .eq, a, b => (D.eqv a b).map .bl
  | .ne, a, b => (D.eqv a b).map fun c => .bl !c
  | .inn, a, .lst ds => if a.sh 20 && (D.lst ds).sh 20 then some (.bl (ds.any fun z => D.eq z a)) else none
  | .nin, a, .lst ds => if a.sh 20 && (D.lst ds).sh 20 then some (.bl (!ds.any fun z => D.eq z a)) else none
  | .inn, a, .tup ds => if a.flat && ds.all D.flat then some (.bl (ds.any fun z => D.eq z a)) else none
  | .isn, a, .non => some (.bl a.isN)
  | .non, a, .non => some (.bl !a.isN)
  | _, _, _ => none
def O2.bop : O2 → Option Operator
  | .add => some .Add | .sub => some .Sub | .mul => some .Mult | .fdiv => some .FloorDiv | .mod => some .Mod | .pow => some .Pow | _ => none
def O2.cop : O2 → Option CmpOp
  | .lt => some .Lt | .le => some .LtE | .gt => some .Gt | .ge => some .GtE | .eq => some .Eq | .ne => some .NotEq | .inn => some .In | .nin => some .NotIn | .isn => some .Is | .non => some .IsNot | _ => none
theorem O2.atom {o : O2} {a b z : D} (h : o.f a b = some z) : ∃ u, z.at = some u := by
  cases o <;> cases a <;> cases b <;> simp only [O2.f, Option.some.injEq, reduceCtorEq, Option.map_eq_some_iff, Option.ite_none_right_eq_some, Option.ite_none_left_eq_some] at h <;>
    first
      | (subst h; exact ⟨_, rfl⟩)
      | (obtain ⟨_, rfl⟩ := h; exact ⟨_, rfl⟩)
      | (obtain ⟨_, _, rfl⟩ := h; exact ⟨_, rfl⟩)
theorem pys_any {ds : List D} {a : D} (h1 : D.shs ds 19 = true) (h2 : a.sh 20 = true) : (D.pys ds).any (fun z => PyData.eqv z a.py) = ds.any fun z => D.eq z a := by
  induction ds with
  | nil => simp [D.pys]
  | cons d ds ih =>
    simp only [D.shs, Bool.and_eq_true] at h1
    simp only [D.pys, List.any_cons, py_eqv h1.1 h2, ih h1.2]
theorem flat_rel {K : PySem.W.Frag} {H : Hp} {d : D} {v : V} (f : d.flat = true) (r : RD K H d v) : flatV v = true := by
  cases d <;> simp [D.flat] at f <;> simp only [RD] at r <;> subst r <;> rfl
theorem flat_eq {K : PySem.W.Frag} {H : Hp} {a b : D} {v w : V} (fa : a.flat = true) (fb : b.flat = true) (ra : RD K H a v) (rb : RD K H b w) : eqV v w = D.eq a b := by
  cases a <;> simp [D.flat] at fa <;> simp only [RD] at ra <;> subst ra <;> cases b <;> simp [D.flat] at fb <;> simp only [RD] at rb <;> subst rb <;> simp [eqV, D.eq]
theorem flat_any {K : PySem.W.Frag} {H : Hp} {a : D} {v : V} (fa : a.flat = true) (ra : RD K H a v) : ∀ {ds : List D} {vs : List V}, ds.all D.flat = true → RDs K H ds vs → vs.all flatV = true ∧ inV v vs = ds.any fun z => D.eq z a
  | [], vs, _, r => by simp only [RDs] at r; subst r; exact ⟨rfl, rfl⟩
  | d :: ds, vs, f, r => by
    simp only [List.all_cons, Bool.and_eq_true] at f
    simp only [RDs] at r
    obtain ⟨w, r', h1, h2, h3⟩ := r
    subst h1
    obtain ⟨q1, q2⟩ := flat_any fa ra f.2 h3
    refine ⟨by simp only [List.all_cons, flat_rel f.1 h2, q1, Bool.and_self], ?_⟩
    simp only [inV, List.any_cons] at q2 ⊢
    rw [q2, flat_eq f.1 fa h2 ra]
section
variable {X : Cx} {W : WX}
/-- the rule of an operator of two -/
def O2.r (K : PySem.W.Frag) : O2 → R2
  | .add => rI0 fun i j => .int (i + j)
  | .sub => rI0 fun i j => .int (i - j)
  | .mul => rI (fun i j => mulOk i j = true) fun i j => .int (i * j)
  | .fdiv => rI (fun _ j => divOk j = true) fun i j => .int (i.fdiv j)
  | .mod => rI (fun _ j => j ≠ 0) fun i j => .int (i.fmod j)
  | .pow => rI (fun i j => powOk i j = true) fun i j => .int (i ^ j.toNat)
  | .lt => rI0 fun i j => .bl (decide (i < j))
  | .le => rI0 fun i j => .bl (decide (i ≤ j))
  | .gt => rI0 fun i j => .bl (decide (j < i))
  | .ge => rI0 fun i j => .bl (decide (j ≤ i))
  | .eq => rEqD K
  | .ne => rNeD K
  | .inn => fun x y H Q => rInD K x y H Q ∨ rIn K false x y H Q
  | .nin => rNotInD K
  | .isn => fun x y H Q => y = .non ∧ Q (.bl (decide (x = .non))) H
  | .non => fun x y H Q => y = .non ∧ Q (.bl (!decide (x = .non))) H
theorem isnon {K : PySem.W.Frag} {H : Hp} {d : D} {v : V} (r : RD K H d v) : decide (v = .non) = d.isN := by
  cases d <;> simp only [RD] at r <;> simp only [D.isN]
  case tup => obtain ⟨a, vs, rfl, _⟩ := r; simp
  case lst => obtain ⟨a, vs, rfl, _⟩ := r; simp
  case scr => obtain ⟨a, rfl, _⟩ := r; simp
  case dct => obtain ⟨a, vs, rfl, _⟩ := r; simp
  case exc => obtain ⟨a, rfl, _⟩ := r; simp
  all_goals (subst r; simp)
theorem O2.ok {K : PySem.W.Frag} {o : O2} {a b z : D} {v w : V} {H : Hp} {Q : VK} (h : o.f a b = some z) (ra : RD K H a v) (rb : RD K H b w) (q : ∀ u, z.at = some u → Q u H) : o.r K v w H Q := by
  have hints : ∀ {i j : Int}, a = .int i → b = .int j → v = .int i ∧ w = .int j := fun {i j} e1 e2 => by
    subst e1 e2
    simp only [RD] at ra rb
    exact ⟨ra, rb⟩
  cases o
  case eq =>
    simp only [O2.f, Option.map_eq_some_iff, D.eqv, Option.ite_none_right_eq_some, Bool.and_eq_true] at h
    obtain ⟨c, ⟨⟨s1, s2⟩, e⟩, rfl⟩ := h
    refine ⟨a.py, b.py, ra.dp s1, rb.dp s2, py_shaped s1, py_shaped s2, ?_⟩
    rw [py_eqv s1 s2]
    simp only [Option.some.injEq] at e
    rw [e]
    exact q _ rfl
  case ne =>
    simp only [O2.f, Option.map_eq_some_iff, D.eqv, Option.ite_none_right_eq_some, Bool.and_eq_true] at h
    obtain ⟨c, ⟨⟨s1, s2⟩, e⟩, rfl⟩ := h
    refine ⟨a.py, b.py, ra.dp s1, rb.dp s2, py_shaped s1, py_shaped s2, ?_⟩
    rw [py_eqv s1 s2]
    simp only [Option.some.injEq] at e
    rw [e]
    exact q _ rfl
  case inn =>
    cases b <;> simp only [O2.f, reduceCtorEq, Option.ite_none_right_eq_some, Bool.and_eq_true] at h
    case lst ds =>
      obtain ⟨⟨s1, s2⟩, e⟩ := h
      simp only [Option.some.injEq] at e
      subst e
      have s3 : D.shs ds 19 = true := by simpa only [D.sh] using s2
      refine .inl ⟨a.py, D.pys ds, ra.dp s1, ?_, py_shaped s1, ?_, ?_⟩
      · have := rb.dp s2
        simpa only [D.py] using this
      · have := py_shaped s2
        simpa only [D.py] using this
      · rw [pys_any s3 s1]
        exact q _ rfl
    case tup ds =>
      obtain ⟨⟨s1, s2⟩, e⟩ := h
      simp only [Option.some.injEq] at e
      subst e
      simp only [RD] at rb
      obtain ⟨p, vs, h1, h2, h3⟩ := rb
      obtain ⟨q1, q2⟩ := flat_any s1 ra s2 h3
      refine .inr ⟨p, vs, h1, .inr (.of h2), flat_rel s1 ra, q1, ?_⟩
      simp only [Bool.false_eq_true, if_false]
      rw [q2]
      exact q _ rfl
  case nin =>
    cases b <;> simp only [O2.f, reduceCtorEq, Option.ite_none_right_eq_some, Bool.and_eq_true] at h
    case lst ds =>
      obtain ⟨⟨s1, s2⟩, e⟩ := h
      simp only [Option.some.injEq] at e
      subst e
      have s3 : D.shs ds 19 = true := by simpa only [D.sh] using s2
      refine ⟨a.py, D.pys ds, ra.dp s1, ?_, py_shaped s1, ?_, ?_⟩
      · have := rb.dp s2
        simpa only [D.py] using this
      · have := py_shaped s2
        simpa only [D.py] using this
      · rw [pys_any s3 s1]
        exact q _ rfl
  case isn =>
    cases b <;> simp only [O2.f, reduceCtorEq, Option.some.injEq] at h
    subst h
    simp only [RD] at rb
    refine ⟨rb, ?_⟩
    rw [isnon ra]
    exact q _ rfl
  case non =>
    cases b <;> simp only [O2.f, reduceCtorEq, Option.some.injEq] at h
    subst h
    simp only [RD] at rb
    refine ⟨rb, ?_⟩
    rw [isnon ra]
    exact q _ rfl
  all_goals
    cases a <;> simp only [O2.f, reduceCtorEq] at h
    cases b <;> simp only [reduceCtorEq, Option.some.injEq, Option.ite_none_right_eq_some, Option.ite_none_left_eq_some] at h
    obtain ⟨e1, e2⟩ := hints rfl rfl
    first
      | (subst h; exact ⟨_, _, e1, e2, q _ rfl⟩)
      | (obtain ⟨c, h⟩ := h; subst h; exact ⟨_, _, e1, e2, c, q _ rfl⟩)
theorem O2.bopR {o : O2} {op : Operator} (h : o.bop = some op) : OpR X (binaryOp op) (o.r X.K) := by
  cases o <;> simp only [O2.bop, Option.some.injEq, reduceCtorEq] at h <;> subst h
  · exact op_add
  · exact op_sub
  · exact op_mulG
  · exact op_fdivG
  · exact op_modG
  · exact op_powG
theorem O2.copR {o : O2} {op : CmpOp} (hu : X.A.units + 65 < cLine) (h : o.cop = some op) : OpR X (compareOp op) (o.r X.K) := by
  cases o <;> simp only [O2.cop, Option.some.injEq, reduceCtorEq] at h <;> subst h
  · exact op_lt
  · exact op_le
  · exact op_gt
  · exact op_ge
  · exact op_eqD (by omega)
  · exact op_neD (by omega)
  · exact (op_inD hu).or op_in_seq
  · exact op_notInD hu
  · exact op_isN
  · exact op_notN
theorem SE.bop {o : O2} {op : Operator} {a b : Expr} {fa fb : EF} {pos : Pos} (h : o.bop = some op) (sa : SE X W a fa) (sb : SE X W b fb) : SE X W (.BinOp a op b pos) (PL.op2 fa fb o.f) :=
  SE.op2 sa sb (fun ta tb pa pb => pe_op (O2.bopR h) pa pb) (fun _ _ _ _ _ _ Q e r1 r2 q => O2.ok e r1 r2 q) fun _ _ _ e => O2.atom e
theorem SE.cop {o : O2} {op : CmpOp} {a b : Expr} {fa fb : EF} {pos : Pos} (hu : X.A.units + 65 < cLine) (h : o.cop = some op) (hm : behindInMarks op b = false) (sa : SE X W a fa) (sb : SE X W b fb) : SE X W (.Compare a [op] [b] pos) (PL.op2 fa fb o.f) :=
  SE.op2 sa sb (fun ta tb pa pb => pe_cmpR (O2.copR hu h) pa pb hm) (fun _ _ _ _ _ _ Q e r1 r2 q => O2.ok e r1 r2 q) fun _ _ _ e => O2.atom e
/-- one-place operators -/
def fNeg : D → Option D
  | .int i => some (.int (-i))
  | _ => none
theorem SE.neg {a : Expr} {fa : EF} {pos : Pos} (sa : SE X W a fa) : SE X W (.UnaryOp .USub a pos) (PL.op1 fa fNeg) :=
  SE.op1 sa (fun ta pa => pe_un un_neg pa) fun da z v H Q e r q => by
    cases da <;> simp [fNeg] at e
    subst e
    simp only [RD] at r
    exact ⟨_, r, q _ rfl⟩
end
end PL

/-! PL5: items, argument lists, displays, tests -/
namespace PL
open PySem PySem.Spec PyProof.Rows L2

/-- the most items of a list -/
abbrev LM : Nat := 1000000
theorem lm_line : LM < sizeLine := by rw [sizeLine_eq]; decide

/-! ### items -/
def D.itm : D → Option (List D)
  | .lst ds => some ds
  | .tup ds => some ds
  | .scr ns => some (ns.map D.int)
  | _ => none
def vwl (d : D) : OV := if d.lf then .fr d else .vw d
def OV.itm : OV → Option (List OV)
  | .fr d => d.itm.map (·.map OV.fr)
  | .vw d => d.itm.map (·.map vwl)
  | .ol xs => some xs
  | .ot xs => some xs
  | .hole => none
section
variable {K : PySem.W.Frag} {H F : Hp} {O A : Fp}
theorem ros_fr : ∀ {ds : List D} {vs : List V}, RDs K F ds vs → ROs K H F (ds.map .fr) vs Fp.emp
  | [], vs, h => by simp only [RDs] at h; subst h; simp [ROs]
  | d :: ds, vs, h => by
    simp only [RDs] at h
    obtain ⟨v, r, h1, h2, h3⟩ := h
    simp only [List.map_cons, ROs]
    exact ⟨v, r, Fp.emp, Fp.emp, h1, ⟨h2, fun _ z => z⟩, ros_fr h3, fun _ z => z.elim, fun q => by simp [Fp.emp]⟩
theorem ro_vwl (ho : ∀ q, O q → ∃ vs, H q = some (.lst vs)) {d : D} {v : V} (h : RD K H d v) : RO K H (msk H O) (vwl d) v Fp.emp := by
  unfold vwl
  split
  · rename_i hl
    exact ⟨RD.lf ho hl h, fun _ z => z⟩
  · exact ⟨h, fun _ z => z⟩
theorem ros_vwl (ho : ∀ q, O q → ∃ vs, H q = some (.lst vs)) : ∀ {ds : List D} {vs : List V}, RDs K H ds vs → ROs K H (msk H O) (ds.map vwl) vs Fp.emp
  | [], vs, h => by simp only [RDs] at h; subst h; simp [ROs]
  | d :: ds, vs, h => by
    simp only [RDs] at h
    obtain ⟨v, r, h1, h2, h3⟩ := h
    simp only [List.map_cons, ROs]
    exact ⟨v, r, Fp.emp, Fp.emp, h1, ro_vwl ho h2, ros_vwl ho h3, fun _ z => z.elim, fun q => by simp [Fp.emp]⟩
theorem rd_itm {d : D} {v : V} {ds : List D} (h : RD K H d v) (e : d.itm = some ds) : ∃ p vs, v = .ref p ∧ (SqL K H p vs ∨ SqT K H p vs) ∧ RDs K H ds vs := by
  cases d <;> simp only [D.itm, Option.some.injEq, reduceCtorEq] at e <;> subst e <;> simp only [RD] at h
  · obtain ⟨a, vs, h1, h2, h3⟩ := h
    exact ⟨a, vs, h1, .inr (.of h2), h3⟩
  · obtain ⟨a, vs, h1, h2, h3⟩ := h
    exact ⟨a, vs, h1, .inl (.of h2), h3⟩
  · obtain ⟨a, h1, h2⟩ := h
    exact ⟨a, _, h1, .inl h2, RDs.ints⟩
theorem sq_mono {H' : Hp} {p : Addr} {vs : List V} (s : Same H H') (h : SqL K H p vs ∨ SqT K H p vs) : SqL K H' p vs ∨ SqT K H' p vs := by
  rcases h with h | h
  · exact .inl (s.seq h)
  · rcases h with (h | ⟨o, h⟩) | h
    · exact .inr (.inl (.inl (s _ _ h)))
    · exact .inr (.inl (.inr ⟨o, s _ _ h⟩))
    · exact .inr (.inr h)
/-- the items of a tree that stand in the heap -/
theorem RO.itm (ho : ∀ q, O q → ∃ vs, H q = some (.lst vs)) {x : OV} {v : V} {xs : List OV} (h : RO K H (msk H O) x v A) (e : x.itm = some xs) :
    ∃ p vs, v = .ref p ∧ (SqL K H p vs ∨ SqT K H p vs) ∧ ∃ A', ROs K H (msk H O) xs vs A' ∧ ∀ q, A' q → A q := by
  cases x with
  | hole => simp [OV.itm] at e
  | fr d =>
    simp only [OV.itm, Option.map_eq_some_iff] at e
    obtain ⟨ds, e1, e2⟩ := e
    subst e2
    simp only [RO] at h
    obtain ⟨p, vs, h1, h2, h3⟩ := rd_itm h.1 e1
    exact ⟨p, vs, h1, sq_mono msk_same h2, Fp.emp, ros_fr h3, fun q z => z.elim⟩
  | vw d =>
    simp only [OV.itm, Option.map_eq_some_iff] at e
    obtain ⟨ds, e1, e2⟩ := e
    subst e2
    simp only [RO] at h
    obtain ⟨p, vs, h1, h2, h3⟩ := rd_itm h.1 e1
    exact ⟨p, vs, h1, h2, Fp.emp, ros_vwl ho h3, fun q z => z.elim⟩
  | ol ys =>
    simp only [OV.itm, Option.some.injEq] at e
    subst e
    simp only [RO] at h
    obtain ⟨p, vs, B, h1, h2, h3, h4, h5⟩ := h
    exact ⟨p, vs, h1, .inl (.of h2), B, h3, fun q b => (h5 q).mpr (.inr b)⟩
  | ot ys =>
    simp only [OV.itm, Option.some.injEq] at e
    subst e
    simp only [RO] at h
    obtain ⟨p, vs, h1, h2, h3⟩ := h
    exact ⟨p, vs, h1, .inr (.of h2), A, h3, fun q b => b⟩
theorem atI_pair {α β : Type} {xs : List α} {ys : List β} (hl : xs.length = ys.length) {i : Int} {x : α} (h : atI xs i = some x) : ∃ (j : Nat) (y : β), xs[j]? = some x ∧ ys[j]? = some y ∧ atI ys i = some y := by
  unfold atI at h ⊢
  rw [← hl]
  cases e : ixN xs.length i with
  | none => rw [e] at h; cases h
  | some j =>
    rw [e] at h
    have hx : xs[j]? = some x := h
    have hj := (List.getElem?_eq_some_iff.mp hx).1
    exact ⟨j, ys[j]'(by omega), hx, by simp [hl ▸ hj], by simp [hl ▸ hj]⟩
end

/-- an item by its index -/
def OV.el (x : OV) (i : Int) : Option OV := x.itm.bind fun xs => (atI xs i).bind fun y => match y with
  | .hole => none
  | y => some y
/-- an item of a dict by its key -/
def dget : List Int → List D → Int → Option D
  | k :: ks, d :: ds, i => if k = i then some d else dget ks ds i
  | _, _, _ => none
def OV.ix (x : OV) (i : Int) : Option OV := match x with
  | .fr (.dct ks ds) => (dget ks ds i).map .fr
  | x => x.el i
def fIx (fa fb : EF) : EF := fun env => bnd (fa env) fun x e1 => bnd (fb e1) fun y e2 => match y.d with
  | some (.int i) => (x.ix i).map fun z => .ok z e2
  | _ => none
theorem dget_ok {K : PySem.W.Frag} {F : Hp} : ∀ {ks : List Int} {ds : List D} {kvs : List (Key × V)} {i : Int} {d : D}, kvs.map (·.1) = ks.map Sum.inl → RDs K F ds (kvs.map (·.2)) → dget ks ds i = some d → ∃ v, valV kvs (.inl i) = some v ∧ RD K F d v
  | [], _, _, _, _, _, _, e => by simp [dget] at e
  | _ :: _, [], _, _, _, _, _, e => by simp [dget] at e
  | k :: ks, d' :: ds, [], i, d, h1, h2, e => by simp at h1
  | k :: ks, d' :: ds, (k2, v2) :: kvs, i, d, h1, h2, e => by
    simp only [List.map_cons, List.cons.injEq] at h1
    simp only [List.map_cons, RDs] at h2
    obtain ⟨v, r, e1, e2, e3⟩ := h2
    simp only [List.cons.injEq] at e1
    obtain ⟨rfl, rfl⟩ := e1
    obtain ⟨rfl, h1⟩ := h1
    simp only [dget] at e
    by_cases hk : k = i
    · subst hk
      rw [if_pos rfl] at e
      have e' := Option.some.inj e
      subst e'
      exact ⟨v2, by simp [valV], e2⟩
    · rw [if_neg hk] at e
      obtain ⟨w, q1, q2⟩ := dget_ok h1 e3 e
      refine ⟨w, ?_, q2⟩
      have hne : ¬ (Sum.inl k : Key) = Sum.inl i := fun z => hk (Sum.inl.inj z)
      have hne2 : ¬ (Sum.inl i : Key) = Sum.inl k := fun z => hk (Sum.inl.inj z).symm
      simp only [valV] at q1 ⊢
      first
        | simpa [hne, hne2] using q1
        | (simp [hne, hne2, hk, Ne.symm hk]; exact q1)
section
variable {X : Cx} {W : WX}
theorem SE.ix {a b : Expr} {fa fb : EF} {pos : Pos} (hu : X.A.units + 1 < cLine) (hb : PlainIx b) (hn : NoSl b) (sa : SE X W a fa) (sb : SE X W b fb) : SE X W (.Subscript a b pos) (fIx fa fb) := by
  obtain ⟨ta, pa, qa⟩ := sa
  obtain ⟨tb, pb, qb⟩ := sb
  refine ⟨_, pe_or2 (pe_ix (ix_list.or ix_tup) pa pb hb) (pe_dget hu pa pb hn), fun R H P σ env at_ Q hp => ?_⟩
  unfold fIx at hp
  -- which way is it
  by_cases hd : ∃ ks ds e1, fa env = some (.ok (.fr (.dct ks ds)) e1)
  · obtain ⟨ks, ds, e1, ea⟩ := hd
    rw [ea, bnd_ok] at hp
    refine .inr (two (a := a) (b := b) (T := fun x y H2 => ∃ a v, x = .ref a ∧ DGet H2 a y (some v) ∧ Q v H2) (k := fun _ _ _ => none) qa qb at_ (fun c e => ?_) (fun x e1' c e e' => ?_) (fun e => ?_) (fun x e1' e e' => ?_) (fun x e1' y e2 v w H2 P2 B1 B2 ea' eb g dj r1 r2 => ?_))
    · rw [ea] at e; cases e
    · rw [ea] at e; cases e; rw [e'] at hp; exact hp
    · rw [ea] at e; cases e
    · rw [ea] at e; cases e; rw [e'] at hp; exact hp
    · rw [ea] at ea'; cases ea'
      rw [eb, bnd_ok] at hp
      cases ey : y.d with
      | none => rw [ey] at hp; exact hp.elim
      | some dy =>
        cases dy <;> simp only [ey] at hp <;> try exact hp.elim
        rename_i i
        simp only [OV.ix] at hp
        cases ez : dget ks ds i with
        | none => rw [ez] at hp; exact hp.elim
        | some z =>
          rw [ez] at hp
          simp only [RO, RD] at r1
          obtain ⟨⟨p, kvs, h1, h2, h3, h4⟩, _⟩ := r1
          obtain ⟨u, k1, k2⟩ := dget_ok h3 h4 ez
          have hw : w = .int i := by
            have := r2.rd msk_same ey
            simpa only [RD] using this
          subst h1 hw
          refine ⟨p, u, rfl, ?_, hp u H2 P2 Fp.emp (g.weak fun q z => z.elim) ⟨?_, fun _ z => z⟩⟩
          · rw [← k1]
            exact DGet.k (k := .inl i) (msk_same _ _ h2)
          · exact RD.mono (msk_sub fun q z => z.elim .inl fun z => .inr (z.elim (fun z => z.elim) .inr)) _ _ k2
  · have hp' : EPost X W R H P σ (bnd (fa env) fun x e1 => bnd (fb e1) fun y e2 => match y.d with
      | some (.int i) => (x.el i).map fun z => .ok z e2
      | _ => none) Q := by
      cases ea : fa env with
      | none => rw [ea] at hp; exact hp
      | some s =>
        cases s with
        | exc c => rw [ea] at hp; exact hp
        | ok x e1 =>
          have hx : ∀ i, x.ix i = x.el i := fun i => by
            cases x with
            | fr d =>
              cases d with
              | dct ks ds => exact absurd ⟨ks, ds, e1, ea⟩ hd
              | _ => rfl
            | _ => rfl
          rw [ea, bnd_ok] at hp
          rw [bnd_ok]
          simp only [hx] at hp
          exact hp
    refine .inl (two (a := a) (b := b) (T := fun x y H2 => rIxL X.K x y H2 Q ∨ rIxT X.K x y H2 Q) (k := fun _ _ _ => none) qa qb at_ (fun c e => ?_) (fun x e1' c e e' => ?_) (fun e => ?_) (fun x e1' e e' => ?_) (fun x e1' y e2 v w H2 P2 B1 B2 ea eb g dj r1 r2 => ?_))
    · rw [e] at hp'; exact hp'
    · rw [e, bnd_ok, e'] at hp'; exact hp'
    · rw [e] at hp'; exact hp'
    · rw [e, bnd_ok, e'] at hp'; exact hp'
    · rw [ea, bnd_ok, eb, bnd_ok] at hp'
      cases ey : y.d with
      | none => rw [ey] at hp'; exact hp'.elim
      | some dy =>
        cases dy <;> simp only [ey] at hp' <;> try exact hp'.elim
        rename_i i
        have hw : w = .int i := by
          have := r2.rd msk_same ey
          simpa only [RD] using this
        subst hw
        unfold OV.el at hp'
        cases exs : x.itm with
        | none => rw [exs] at hp'; exact hp'.elim
        | some xs =>
          have ho : ∀ q, own P2 (fun q => (B1 q ∨ B2 q) ∨ R q) q → ∃ vs, H2 q = some (.lst vs) := fun q z => by
            rcases z with z | z | z
            · exact g.er.dom q z
            · exact g.bd q z
            · obtain ⟨vs, e⟩ := at_.rd q z
              exact ⟨vs, g.same _ _ e⟩
          obtain ⟨p, vs, h1, h2, A', h3, h4⟩ := RO.itm ho r1 exs
          rw [exs, Option.bind_some] at hp'
          cases eel : atI xs i with
          | none => rw [eel] at hp'; exact hp'.elim
          | some z =>
            rw [eel, Option.bind_some] at hp'
            have hz : z ≠ .hole := by
              rintro rfl
              exact hp'.elim
            have hp2 : EPost X W R H P σ (some (.ok z e2)) Q := by
              cases z with
              | hole => exact absurd rfl hz
              | _ => exact hp'
            obtain ⟨PP, k1, k2⟩ := RI.of h3
            obtain ⟨j, u, j1, j2, j3⟩ := atI_pair (ys := vs) k1.len.symm eel
            obtain ⟨u', j4, j5⟩ := k1.at_ j z j1
            rw [j2] at j4
            have j6 := Option.some.inj j4
            subst j6 h1
            have fin : Q u H2 := hp2 u H2 P2 (PP j) (g.weak fun q b => .inl (h4 q ((k2 q).mpr ⟨j, b⟩))) (j5.sub fun q z => by
              rcases z with z | z | z
              · exact .inl z
              · exact .inr (.inl (.inl (h4 q ((k2 q).mpr ⟨j, z⟩))))
              · exact .inr (.inr z))
            rcases h2 with h2 | h2
            · exact .inl ⟨p, vs, i, u, rfl, rfl, h2, j3, fin⟩
            · exact .inr ⟨p, vs, i, u, rfl, rfl, h2, j3, fin⟩

/-! ### argument lists -/
def aNil : AF := fun env => some (.ok [] env)
def aCons (fa : EF) (fr : AF) : AF := fun env => bndC (fa env) fun x e1 => bndCA (fr e1) fun xs e2 => some (.ok (x :: xs) e2)
theorem SA.nil : SA X W [] aNil := ⟨_, pa_nil, fun R H P σ env a Q hp => hp [] H P Fp.emp (Go.refl a) ⟨rfl, fun _ z => z⟩⟩
theorem SA.cons {e : Expr} {es : List Expr} {fa : EF} {fr : AF} (sa : SE X W e fa) (sr : SA X W es fr) (hs : starEach (e :: es) X.env = (false, eval e X.env) :: starEach es X.env) : SA X W (e :: es) (aCons fa fr) := by
  obtain ⟨ta, pa, qa⟩ := sa
  obtain ⟨tr, pr, qr⟩ := sr
  refine ⟨_, pa_cons pa pr hs, fun R H P σ env a Q hp => ?_⟩
  unfold aCons at hp
  refine qa R H P σ env a _ ?_
  cases ea : fa env with
  | none => rw [ea] at hp; exact hp
  | some s =>
    cases s with
    | exc c => rw [ea] at hp; exact hp
    | ok x e1 =>
      rw [ea, bndC_ok] at hp
      intro v H1 P1 B1 g1 r1
      have a1 := g1.at a
      refine qr _ H1 P1 σ e1 a1 _ ?_
      cases er : fr e1 with
      | none => rw [er] at hp; exact hp
      | some s =>
        cases s with
        | exc c => rw [er] at hp; exact hp.trans g1.same
        | ok xs e2 =>
          rw [er, bndCA_ok] at hp
          intro vs H2 P2 B2 g2 r2
          have s := g2.frz a1
          refine hp (v :: vs) H2 P2 _ (g1.trans a g2) ?_
          simp only [ROs]
          refine ⟨v, vs, B1, B2, rfl, (r1.mono g2.same s).sub fun q z => ?_, r2.sub fun q z => ?_, fun q b1 b2 => g2.bR a1 q b2 (.inl b1), fun q => Iff.rfl⟩
          · rcases z with z | (z | z) | z
            · exact .inl z
            · exact .inr (.inr (.inl z))
            · exact .inr (.inl z)
            · exact .inr (.inr (.inr z))
          · rcases z with z | (z | z) | z
            · exact .inl z
            · exact .inr (.inr (.inl z))
            · exact .inr (.inl z)
            · exact .inr (.inr (.inr z))

/-! ### new lists, new tuples -/
def OV.frs : List OV → Option (List D)
  | [] => some []
  | .fr d :: xs => (OV.frs xs).map (d :: ·)
  | _ :: _ => none
def mkT (xs : List OV) : OV := match OV.frs xs with
  | some ds => .fr (.tup ds)
  | none => .ot xs
theorem ros_frs {K : PySem.W.Frag} {H F : Hp} : ∀ {xs : List OV} {vs : List V} {A : Fp} {ds : List D}, ROs K H F xs vs A → OV.frs xs = some ds → RDs K F ds vs
  | [], vs, A, ds, h, e => by simp only [OV.frs, Option.some.injEq] at e; subst e; simp only [ROs] at h; simp only [RDs]; exact h.1
  | x :: xs, vs, A, ds, h, e => by
    cases x <;> simp only [OV.frs, reduceCtorEq, Option.map_eq_some_iff] at e
    obtain ⟨es, e1, e2⟩ := e
    subst e2
    simp only [ROs] at h
    obtain ⟨v, r, B, C, h1, h2, h3, h4, h5⟩ := h
    simp only [RO] at h2
    simp only [RDs]
    exact ⟨v, r, h1, h2.1, ros_frs h3 e1⟩
section
variable {R B : Fp} {H H' : Hp} {P P' : Nat → Fp} {σ : Sl} {env env' : List OV} {Q : VK}
theorem same_new {p : Addr} {o : HO} (hp : H p = none) : Same H (upd H p o) := fun b u e => by rw [upd_ne (ne_of_none e hp)]; exact e
/-- a new list of trees -/
theorem post_lst {xs : List OV} {vs : List V} {p : Addr} (a : At X.K R H P σ env) (g : Go X.K R H P σ H' P' env' B) (r : ROs X.K H' (msk H' (own P' fun q => B q ∨ R q)) xs vs B) (hp : H' p = none)
    (q : EPost X W R H P σ (some (.ok (.ol xs) env')) Q) : Q (.ref p) (upd H' p (.lst vs)) := by
  have nb : ¬ B p := fun z => by obtain ⟨ws, e⟩ := g.bd p z; rw [hp] at e; cases e
  refine q _ _ P' (fun q => q = p ∨ B q) (g.new a hp fun q z => z.elim (fun z => .inr ⟨z, vs, rfl⟩) .inl) ?_
  simp only [RO]
  refine ⟨p, vs, B, rfl, upd_same, r.mono (same_new hp) (msk_step (same_new hp) fun q z => ?_), nb, fun q => Iff.rfl⟩
  rcases z with z | (z | z) | z
  · exact .inl (.inl z)
  · subst z; exact .inr hp
  · exact .inl (.inr (.inl z))
  · exact .inl (.inr (.inr z))
theorem post_tup {xs : List OV} {vs : List V} {p : Addr} (a : At X.K R H P σ env) (g : Go X.K R H P σ H' P' env' B) (r : ROs X.K H' (msk H' (own P' fun q => B q ∨ R q)) xs vs B) (hp : H' p = none)
    (q : EPost X W R H P σ (some (.ok (mkT xs) env')) Q) : Q (.ref p) (upd H' p (.tup vs)) := by
  have st : Same (msk H' (own P' fun q => B q ∨ R q)) (msk (upd H' p (.tup vs)) (own P' fun q => B q ∨ R q)) := msk_step (same_new hp) fun q z => .inl z
  have np : ¬ own P' (fun q => B q ∨ R q) p := fun z => by
    rcases z with z | z | z
    · obtain ⟨ws, e⟩ := g.er.dom p z; rw [hp] at e; cases e
    · obtain ⟨ws, e⟩ := g.bd p z; rw [hp] at e; cases e
    · obtain ⟨ws, e⟩ := a.rd p z; have := g.same _ _ e; rw [hp] at this; cases this
  unfold mkT at q
  cases e : OV.frs xs with
  | some ds =>
    rw [e] at q
    refine q _ _ P' Fp.emp (g.new a hp fun q z => z.elim) ⟨?_, fun _ z => z⟩
    simp only [RD]
    refine ⟨p, vs, rfl, msk_some.mpr ⟨fun z => np (z.elim .inl fun z => .inr (z.elim (fun z => z.elim) .inr)), upd_same⟩, ?_⟩
    refine RDs.mono (st.trans (msk_sub fun q z => z.elim .inl fun z => .inr (z.elim (fun z => z.elim) .inr))) _ _ (ros_frs r e)
  | none =>
    rw [e] at q
    refine q _ _ P' B (g.new a hp fun q z => .inl z) ?_
    simp only [RO]
    exact ⟨p, vs, rfl, upd_same, r.mono (same_new hp) st⟩
end
def fLst (f : AF) : EF := fun env => bndA (f env) fun xs e => if xs.length ≤ LM then some (.ok (.ol xs) e) else none
def fTup (f : AF) : EF := fun env => bndA (f env) fun xs e => if xs.length ≤ LM then some (.ok (mkT xs) e) else none
theorem SE.lst {es : List Expr} {f : AF} {pos : Pos} (sa : SA X W es f) : SE X W (.List es pos) (fLst f) := by
  obtain ⟨ta, pa, qa⟩ := sa
  refine ⟨_, pe_lst pa, fun R H P σ env a Q hp => ?_⟩
  unfold fLst at hp
  refine qa R H P σ env a _ ?_
  cases ea : f env with
  | none => rw [ea] at hp; exact hp
  | some s =>
    cases s with
    | exc c => rw [ea] at hp; exact hp
    | ok xs e1 =>
      rw [ea, bndA_ok] at hp
      intro vs H1 P1 B1 g1 r1
      split at hp
      · rename_i hl
        refine ⟨?_, fun p hp1 => post_lst a g1 r1 hp1 hp⟩
        have := r1.length
        have := lm_line
        omega
      · exact hp.elim
theorem SE.tup {es : List Expr} {k : Nat} {f : AF} {pos : Pos} (sa : SA X W es f) : SE X W (.Tuple es k pos) (fTup f) := by
  obtain ⟨ta, pa, qa⟩ := sa
  refine ⟨_, pe_tup pa, fun R H P σ env a Q hp => ?_⟩
  unfold fTup at hp
  refine qa R H P σ env a _ ?_
  cases ea : f env with
  | none => rw [ea] at hp; exact hp
  | some s =>
    cases s with
    | exc c => rw [ea] at hp; exact hp
    | ok xs e1 =>
      rw [ea, bndA_ok] at hp
      intro vs H1 P1 B1 g1 r1
      split at hp
      · rename_i hl
        refine ⟨?_, fun p hp1 => post_tup a g1 r1 hp1 hp⟩
        have := r1.length
        have := lm_line
        omega
      · exact hp.elim
end
end PL

/-! PL6: tests, and, or, not, if-else, built-ins -/
namespace PL
open PySem PySem.Spec PyProof.Rows L2
section
variable {X : Cx} {W : WX} {R B : Fp} {H H' : Hp} {P P' : Nat → Fp} {σ : Sl} {env env' : List OV}

/-! ### tests -/
theorem BPost.e {r : Option Ou} {Q : Bool → Hp → Prop} (h : BPost X W R H P σ r Q) : EPost X W R H P σ r (fun x H' => ∃ k, x = .bl k ∧ Q k H') := by
  cases r with
  | none => exact h
  | some s =>
    cases s with
    | exc c => exact h
    | ok x env' =>
      obtain ⟨b, rfl, h⟩ := h
      intro v H' P' B g r
      simp only [RO, RD] at r
      exact ⟨b, r.1, h H' P' (g.weak fun q z => z.elim)⟩
theorem STe.val {e : Expr} {f : EF} (he : ∀ whole, isTrue e X.env whole = (do let v ← whole; standAt e.pos; holding [v] (truthy v))) (s : SE X W e f) : STe X W e f := by
  obtain ⟨t, p, q⟩ := s
  exact ⟨_, pt_val p he, fun R H P σ env a Q h => q R H P σ env a _ h.e⟩
theorem STe.cop {o : O2} {op : CmpOp} {a b : Expr} {fa fb : EF} {pos : Pos} (hu : X.A.units + 65 < cLine) (h : o.cop = some op) (hm : behindInMarks op b = false) (sa : SE X W a fa) (sb : SE X W b fb) : STe X W (.Compare a [op] [b] pos) (PL.op2 fa fb o.f) := by
  obtain ⟨ta, pa, qa⟩ := sa
  obtain ⟨tb, pb, qb⟩ := sb
  refine ⟨_, pt_cmpR (O2.copR hu h) pa pb hm, fun R H P σ env at_ Q hb => ?_⟩
  have hp := hb.e
  unfold PL.op2 at hp
  refine two (a := a) (b := b) (T := fun v w H2 => o.r X.K v w H2 fun x H' => ∃ k, x = .bl k ∧ Q k H') (k := fun _ _ _ => none) qa qb at_ (fun c e => ?_) (fun x e1 c e e' => ?_) (fun e => ?_) (fun x e1 e e' => ?_) (fun x e1 y e2 v w H2 P2 B1 B2 ea eb g dj r1 r2 => ?_)
  · rw [e] at hp; exact hp
  · rw [e, bnd_ok, e'] at hp; exact hp
  · rw [e] at hp; exact hp
  · rw [e, bnd_ok, e'] at hp; exact hp
  · rw [ea, bnd_ok, eb, bnd_ok] at hp
    cases ex : x.d with
    | none => rw [ex] at hp; exact hp.elim
    | some da =>
      cases ey : y.d with
      | none => rw [ex, ey] at hp; exact hp.elim
      | some db =>
        cases ez : o.f da db with
        | none => simp only [ex, ey, ez, Option.map_none] at hp; exact hp.elim
        | some z =>
          simp only [ex, ey, ez, Option.map_some] at hp
          exact O2.ok ez (r1.rd msk_same ex) (r2.rd msk_same ey) fun u hu => hp.atom hu g
/-! ### not -/
def fNot (f : EF) : EF := fun env => bnd (f env) fun x e => match x with
  | .fr (.bl b) => some (.ok (.fr (.bl !b)) e)
  | _ => none
theorem fNot_inv {f : EF} {env : List OV} {C : Prop} (h1 : fNot f env = none → C) (h2 : ∀ c, f env = some (.exc c) → fNot f env = some (.exc c) → C) (h3 : ∀ b e, f env = some (.ok (.fr (.bl b)) e) → fNot f env = some (.ok (.fr (.bl !b)) e) → C) : C := by
  cases e : f env with
  | none => exact h1 (by unfold fNot; rw [e]; rfl)
  | some s =>
    cases s with
    | exc c => exact h2 c e (by unfold fNot; rw [e]; rfl)
    | ok x e1 =>
      cases x with
      | fr d =>
        cases d with
        | bl b => exact h3 b e1 e (by unfold fNot; rw [e]; rfl)
        | _ => exact h1 (by unfold fNot; rw [e]; rfl)
      | _ => exact h1 (by unfold fNot; rw [e]; rfl)
theorem SE.not {a : Expr} {f : EF} {pos : Pos} (s : SE X W a f) : SE X W (.UnaryOp .Not a pos) (fNot f) := by
  obtain ⟨t, p, q⟩ := s
  refine ⟨_, pe_not p, fun R H P σ env at_ Q hp => q R H P σ env at_ _ ?_⟩
  refine fNot_inv (f := f) (env := env) (fun e => ?_) (fun c e e' => ?_) (fun b e1 e e' => ?_)
  · rw [e] at hp; exact hp.elim
  · rw [e'] at hp; rw [e]; exact hp
  · rw [e'] at hp; rw [e]
    intro v H' P' B g r
    simp only [RO, RD] at r
    exact ⟨b, r.1, hp.atom rfl g⟩
theorem STe.not {a : Expr} {f : EF} {pos : Pos} (s : STe X W a f) : STe X W (.UnaryOp .Not a pos) (fNot f) := by
  obtain ⟨t, p, q⟩ := s
  refine ⟨_, pt_not p, fun R H P σ env at_ Q hp => q R H P σ env at_ _ ?_⟩
  refine fNot_inv (f := f) (env := env) (fun e => ?_) (fun c e e' => ?_) (fun b e1 e e' => ?_)
  · rw [e] at hp; exact hp.elim
  · rw [e'] at hp; rw [e]; exact hp
  · rw [e'] at hp; rw [e]
    obtain ⟨b', eb, h⟩ := hp
    cases eb
    exact ⟨b, rfl, h⟩
/-! ### and, or -/
/-- the first decides, or the second is asked -/
def fBo (and : Bool) (fa fb : EF) : EF := fun env => bnd (fa env) fun x e => match x with
  | .fr (.bl b) => if b = and then fb e else some (.ok (.fr (.bl b)) e)
  | _ => none
theorem fBo_inv {and : Bool} {fa fb : EF} {env : List OV} {C : Prop} (h1 : fBo and fa fb env = none → C) (h2 : ∀ c, fa env = some (.exc c) → fBo and fa fb env = some (.exc c) → C)
    (h3 : ∀ b e, fa env = some (.ok (.fr (.bl b)) e) → fBo and fa fb env = (if b = and then fb e else some (.ok (.fr (.bl b)) e)) → C) : C := by
  cases e : fa env with
  | none => exact h1 (by unfold fBo; rw [e]; rfl)
  | some s =>
    cases s with
    | exc c => exact h2 c e (by unfold fBo; rw [e]; rfl)
    | ok x e1 =>
      cases x with
      | fr d =>
        cases d with
        | bl b => exact h3 b e1 e (by unfold fBo; rw [e]; rfl)
        | _ => exact h1 (by unfold fBo; rw [e]; rfl)
      | _ => exact h1 (by unfold fBo; rw [e]; rfl)
/-- the situation behind a first value that is let go -/
theorem Go.at0 (a : At X.K R H P σ env) (g : Go X.K R H P σ H' P' env' Fp.emp) : At X.K R H' P' σ env' := by
  have q := g.at a
  refine ⟨q.er.mono (Same.refl _) (msk_sub fun q z => z.elim .inl fun z => .inr (.inr z)), fun q' z => q.rd q' (.inr z), fun q' z w => q.dj q' z (.inr w)⟩
theorem Go.trans0 {B2 : Fp} {H2 : Hp} {P2 : Nat → Fp} {env2 : List OV} (a : At X.K R H P σ env) (g : Go X.K R H P σ H' P' env' Fp.emp) (g2 : Go X.K R H' P' σ H2 P2 env2 B2) : Go X.K R H P σ H2 P2 env2 B2 := by
  refine ⟨g.same.trans g2.same, g2.er, g2.dj, fun q z => ?_, g2.bd⟩
  rcases g2.fp q z with k | k
  · exact g.fp q (.inl k)
  · exact .inr (g.same.free k)
theorem EPost.go {r : Option Ou} {Q : VK} (a : At X.K R H P σ env) (g : Go X.K R H P σ H' P' env' Fp.emp) (h : EPost X W R H P σ r Q) : EPost X W R H' P' σ r Q := by
  cases r with
  | none => exact h
  | some s =>
    cases s with
    | exc c => exact XPost.trans g.same h
    | ok x e => exact fun v H2 P2 B2 g2 r2 => h v H2 P2 B2 (g.trans0 a g2) r2
theorem BPost.go {r : Option Ou} {Q : Bool → Hp → Prop} (a : At X.K R H P σ env) (g : Go X.K R H P σ H' P' env' Fp.emp) (h : BPost X W R H P σ r Q) : BPost X W R H' P' σ r Q := by
  cases r with
  | none => exact h
  | some s =>
    cases s with
    | exc c => exact XPost.trans g.same h
    | ok x e =>
      obtain ⟨b, e, h⟩ := h
      exact ⟨b, e, fun H2 P2 g2 => h H2 P2 (g.trans0 a g2)⟩
theorem SE.bo {and : Bool} {a b : Expr} {rest : List Expr} {fa fb : EF} {pos : Pos} (sa : SE X W a fa) (sb : SE X W (.BoolOp (if and then .And else .Or) (b :: rest) pos) fb) : SE X W (.BoolOp (if and then .And else .Or) (a :: b :: rest) pos) (fBo and fa fb) := by
  obtain ⟨ta, pa, qa⟩ := sa
  obtain ⟨tb, pb, qb⟩ := sb
  cases and with
  | true =>
    refine ⟨_, pe_and pa pb, fun R H P σ env at_ Q hp => qa R H P σ env at_ _ ?_⟩
    refine fBo_inv (and := true) (fa := fa) (fb := fb) (env := env) (fun e => ?_) (fun c e e' => ?_) (fun b e1 e e' => ?_)
    · rw [e] at hp; exact hp.elim
    · rw [e'] at hp; rw [e]; exact hp
    · rw [e'] at hp; rw [e]
      intro v H' P' B g r
      simp only [RO, RD] at r
      have g0 := g.weak (B2 := Fp.emp) fun q z => z.elim
      refine ⟨b, r.1, ?_⟩
      cases b with
      | true =>
        rw [if_pos rfl] at hp ⊢
        exact qb _ _ _ _ _ (g0.at0 at_) _ (hp.go at_ g0)
      | false =>
        rw [if_neg (by simp)] at hp
        rw [if_neg (by simp)]
        exact hp.atom rfl g
  | false =>
    refine ⟨_, pe_or pa pb, fun R H P σ env at_ Q hp => qa R H P σ env at_ _ ?_⟩
    refine fBo_inv (and := false) (fa := fa) (fb := fb) (env := env) (fun e => ?_) (fun c e e' => ?_) (fun b e1 e e' => ?_)
    · rw [e] at hp; exact hp.elim
    · rw [e'] at hp; rw [e]; exact hp
    · rw [e'] at hp; rw [e]
      intro v H' P' B g r
      simp only [RO, RD] at r
      have g0 := g.weak (B2 := Fp.emp) fun q z => z.elim
      refine ⟨b, r.1, ?_⟩
      cases b with
      | true =>
        rw [if_neg (by simp)] at hp
        rw [if_pos rfl]
        exact hp.atom rfl g
      | false =>
        rw [if_pos rfl] at hp
        rw [if_neg (by simp)]
        exact qb _ _ _ _ _ (g0.at0 at_) _ (hp.go at_ g0)
theorem SE.bo1 {op : BoolOp} {a : Expr} {fa : EF} {pos : Pos} (sa : SE X W a fa) : SE X W (.BoolOp op [a] pos) fa := by
  obtain ⟨ta, pa, qa⟩ := sa
  exact ⟨_, pe_one pa, qa⟩
theorem SWt.one {and : Bool} {a : Expr} {fa : EF} {pos : Pos} (sa : STe X W a fa) : SWt X W (.BoolOp (if and then .And else .Or) [a] pos) fa := by
  obtain ⟨ta, pa, qa⟩ := sa
  cases and with
  | true => exact ⟨_, pw_and1 pa, qa⟩
  | false => exact ⟨_, pw_or1 pa, qa⟩
theorem SWt.bo {and : Bool} {a b : Expr} {rest : List Expr} {fa fb : EF} {pos : Pos} (sa : STe X W a fa) (sb : SWt X W (.BoolOp (if and then .And else .Or) (b :: rest) pos) fb) : SWt X W (.BoolOp (if and then .And else .Or) (a :: b :: rest) pos) (fBo and fa fb) := by
  obtain ⟨ta, pa, qa⟩ := sa
  obtain ⟨tb, pb, qb⟩ := sb
  cases and with
  | true =>
    refine ⟨_, pw_and pa pb, fun R H P σ env at_ Q hp => qa R H P σ env at_ _ ?_⟩
    refine fBo_inv (and := true) (fa := fa) (fb := fb) (env := env) (fun e => ?_) (fun c e e' => ?_) (fun b e1 e e' => ?_)
    · rw [e] at hp; exact hp.elim
    · rw [e'] at hp; rw [e]; exact hp
    · rw [e'] at hp; rw [e]
      refine ⟨b, rfl, fun H' P' g => ?_⟩
      cases b with
      | true =>
        rw [if_pos rfl] at hp ⊢
        exact qb _ _ _ _ _ (g.at0 at_) _ (hp.go at_ g)
      | false =>
        rw [if_neg (by simp)] at hp
        rw [if_neg (by simp)]
        obtain ⟨b', eb, h⟩ := hp
        cases eb
        exact h H' P' g
  | false =>
    refine ⟨_, pw_or pa pb, fun R H P σ env at_ Q hp => qa R H P σ env at_ _ ?_⟩
    refine fBo_inv (and := false) (fa := fa) (fb := fb) (env := env) (fun e => ?_) (fun c e e' => ?_) (fun b e1 e e' => ?_)
    · rw [e] at hp; exact hp.elim
    · rw [e'] at hp; rw [e]; exact hp
    · rw [e'] at hp; rw [e]
      refine ⟨b, rfl, fun H' P' g => ?_⟩
      cases b with
      | true =>
        rw [if_neg (by simp)] at hp
        rw [if_pos rfl]
        obtain ⟨b', eb, h⟩ := hp
        cases eb
        exact h H' P' g
      | false =>
        rw [if_pos rfl] at hp
        rw [if_neg (by simp)]
        exact qb _ _ _ _ _ (g.at0 at_) _ (hp.go at_ g)
theorem STe.w {e : Expr} {f : EF} (h : SWt X W e f) : STe X W e f := by
  obtain ⟨t, p, q⟩ := h
  exact ⟨t, p.pt, q⟩
/-! ### a if c else b -/
def fIf (fc fa fb : EF) : EF := fun env => bnd (fc env) fun x e => match x with
  | .fr (.bl true) => fa e
  | .fr (.bl false) => fb e
  | _ => none
theorem fIf_inv {fc fa fb : EF} {env : List OV} {C : Prop} (h1 : fIf fc fa fb env = none → C) (h2 : ∀ c, fc env = some (.exc c) → fIf fc fa fb env = some (.exc c) → C)
    (h3 : ∀ b e, fc env = some (.ok (.fr (.bl b)) e) → fIf fc fa fb env = (if b = true then fa e else fb e) → C) : C := by
  cases e : fc env with
  | none => exact h1 (by unfold fIf; rw [e]; rfl)
  | some s =>
    cases s with
    | exc c => exact h2 c e (by unfold fIf; rw [e]; rfl)
    | ok x e1 =>
      cases x with
      | fr d =>
        cases d with
        | bl b => exact h3 b e1 e (by unfold fIf; rw [e]; cases b <;> rfl)
        | _ => exact h1 (by unfold fIf; rw [e]; rfl)
      | _ => exact h1 (by unfold fIf; rw [e]; rfl)
theorem SE.ite {c a b : Expr} {fc fa fb : EF} {pos : Pos} (sc : STe X W c fc) (sa : SE X W a fa) (sb : SE X W b fb) : SE X W (.IfExp c a b pos) (fIf fc fa fb) := by
  obtain ⟨tc, pc, qc⟩ := sc
  obtain ⟨ta, pa, qa⟩ := sa
  obtain ⟨tb, pb, qb⟩ := sb
  refine ⟨_, pe_ifExp pc pa pb, fun R H P σ env at_ Q hp => qc R H P σ env at_ _ ?_⟩
  refine fIf_inv (fc := fc) (fa := fa) (fb := fb) (env := env) (fun e => ?_) (fun c e e' => ?_) (fun b e1 e e' => ?_)
  · rw [e] at hp; exact hp.elim
  · rw [e'] at hp; rw [e]; exact hp
  · rw [e'] at hp; rw [e]
    refine ⟨b, rfl, fun H' P' g => ?_⟩
    cases b with
    | true =>
      rw [if_pos rfl] at hp ⊢
      exact qa _ _ _ _ _ (g.at0 at_) _ (hp.go at_ g)
    | false =>
      rw [if_neg (by simp)] at hp ⊢
      exact qb _ _ _ _ _ (g.at0 at_) _ (hp.go at_ g)
/-! ### a <= b <= c -/
def fChain (o o' : O2) (fa fb fc : EF) : EF := fun env => bnd (fa env) fun x e1 => bnd (fb e1) fun y e2 => match x.d, y.d with
  | some a, some b => (match o.f a b with
    | some (.bl true) => bnd (fc e2) fun z e3 => (match z.d with
      | some c => (o'.f b c).map fun u => .ok (.fr u) e3
      | none => none)
    | some (.bl false) => some (.ok (.fr (.bl false)) e2)
    | _ => none)
  | _, _ => none
theorem chain_core {o o' : O2} {a b c : Expr} {fa fb fc : EF} {ta tb tc : TE} (qa : ∀ R H P σ env, At X.K R H P σ env → ∀ Q : VK, EPost X W R H P σ (fa env) Q → ta σ H Q)
    (qb : ∀ R H P σ env, At X.K R H P σ env → ∀ Q : VK, EPost X W R H P σ (fb env) Q → tb σ H Q) (qc : ∀ R H P σ env, At X.K R H P σ env → ∀ Q : VK, EPost X W R H P σ (fc env) Q → tc σ H Q)
    (at_ : At X.K R H P σ env) {Q : VK} (hp : EPost X W R H P σ (fChain o o' fa fb fc env) Q) : tChain (o.r X.K) (o'.r X.K) ta tb tc σ H Q := by
  unfold fChain at hp
  refine two (a := a) (b := b) (T := fun x y H2 => o.r X.K x y H2 fun z H3 => ∃ k, z = .bl k ∧ (if k = true then tc σ H3 fun w' H4 => o'.r X.K y w' H4 Q else Q (.bl false) H3)) (k := fun _ _ _ => none) qa qb at_ (fun c e => ?_) (fun x e1 c e e' => ?_) (fun e => ?_) (fun x e1 e e' => ?_) (fun x e1 y e2 v w H2 P2 B1 B2 ea eb g dj r1 r2 => ?_)
  · rw [e] at hp; exact hp
  · rw [e, bnd_ok, e'] at hp; exact hp
  · rw [e] at hp; exact hp
  · rw [e, bnd_ok, e'] at hp; exact hp
  · rw [ea, bnd_ok, eb, bnd_ok] at hp
    cases ex : x.d with
    | none => rw [ex] at hp; exact hp.elim
    | some da =>
      cases ey : y.d with
      | none => rw [ex, ey] at hp; exact hp.elim
      | some db =>
        simp only [ex, ey] at hp
        cases ez : o.f da db with
        | none => rw [ez] at hp; exact hp.elim
        | some z =>
          rw [ez] at hp
          refine O2.ok ez (r1.rd msk_same ex) (r2.rd msk_same ey) fun u hu => ?_
          have a2 := g.at at_
          obtain ⟨k, rfl⟩ : ∃ k, z = .bl k := by
            cases z with
            | bl k => exact ⟨k, rfl⟩
            | _ => exact hp.elim
          simp only [D.at, Option.some.injEq] at hu
          subst hu
          refine ⟨k, rfl, ?_⟩
          cases k with
          | false =>
            rw [if_neg (by simp)]
            exact hp.atom rfl g
          | true =>
            rw [if_pos rfl]
            refine qc _ H2 P2 σ e2 a2 _ ?_
            cases ec : fc e2 with
            | none => rw [ec] at hp; exact hp
            | some s =>
              cases s with
              | exc c => rw [ec] at hp; exact hp.trans g.same
              | ok z e3 =>
                rw [ec, bnd_ok] at hp
                intro w' H4 P4 B4 g4 r4
                cases ez2 : z.d with
                | none => rw [ez2] at hp; exact hp.elim
                | some dc =>
                  rw [ez2] at hp
                  cases ef : o'.f db dc with
                  | none => simp only [ef, Option.map_none] at hp; exact hp.elim
                  | some u =>
                    simp only [ef, Option.map_some] at hp
                    refine O2.ok ef (RD.mono g4.same _ _ (r2.rd msk_same ey)) (r4.rd msk_same ez2) fun u' hu' => hp.atom hu' (g.trans at_ g4)
theorem SE.chain {o o' : O2} {op op' : CmpOp} {a b c : Expr} {fa fb fc : EF} {pos : Pos} (hu : X.A.units + 65 < cLine) (h : o.cop = some op) (h' : o'.cop = some op') (hm : lastMarks [op, op'] [b, c] = false) (sa : SE X W a fa) (sb : SE X W b fb) (sc : SE X W c fc) :
    SE X W (.Compare a [op, op'] [b, c] pos) (fChain o o' fa fb fc) := by
  obtain ⟨ta, pa, qa⟩ := sa
  obtain ⟨tb, pb, qb⟩ := sb
  obtain ⟨tc, pc, qc⟩ := sc
  exact ⟨_, pe_chain (O2.copR hu h) (O2.copR hu h') pa pb pc hm, fun R H P σ env at_ Q hp => chain_core (a := a) (b := b) (c := c) qa qb qc at_ hp⟩
theorem STe.chain {o o' : O2} {op op' : CmpOp} {a b c : Expr} {fa fb fc : EF} {pos : Pos} (hu : X.A.units + 65 < cLine) (h : o.cop = some op) (h' : o'.cop = some op') (hm : lastMarks [op, op'] [b, c] = false) (sa : SE X W a fa) (sb : SE X W b fb) (sc : SE X W c fc) :
    STe X W (.Compare a [op, op'] [b, c] pos) (fChain o o' fa fb fc) := by
  obtain ⟨ta, pa, qa⟩ := sa
  obtain ⟨tb, pb, qb⟩ := sb
  obtain ⟨tc, pc, qc⟩ := sc
  exact ⟨_, pt_chain (O2.copR hu h) (O2.copR hu h') pa pb pc hm, fun R H P σ env at_ Q hp => chain_core (a := a) (b := b) (c := c) qa qb qc at_ hp.e⟩

/-! ### built-ins that answer an atom -/
def D.intsOf : List D → Option (List Int)
  | [] => some []
  | .int i :: r => (D.intsOf r).map (i :: ·)
  | _ :: _ => none
def D.blsOf : List D → Option (List Bool)
  | [] => some []
  | .bl i :: r => (D.blsOf r).map (i :: ·)
  | _ :: _ => none
theorem intsOf_rd {K : PySem.W.Frag} {H : Hp} : ∀ {ds : List D} {ns : List Int} {vs : List V}, D.intsOf ds = some ns → RDs K H ds vs → vs = ns.map V.int
  | [], ns, vs, e, r => by simp only [D.intsOf, Option.some.injEq] at e; subst e; simp only [RDs] at r; rw [r]; rfl
  | d :: ds, ns, vs, e, r => by
    cases d <;> simp only [D.intsOf, reduceCtorEq, Option.map_eq_some_iff] at e
    obtain ⟨ms, e1, e2⟩ := e
    subst e2
    simp only [RDs, RD] at r
    obtain ⟨v, w, h1, h2, h3⟩ := r
    subst h1 h2
    rw [List.map_cons, intsOf_rd e1 h3]
theorem blsOf_rd {K : PySem.W.Frag} {H : Hp} : ∀ {ds : List D} {ns : List Bool} {vs : List V}, D.blsOf ds = some ns → RDs K H ds vs → vs = ns.map V.bl
  | [], ns, vs, e, r => by simp only [D.blsOf, Option.some.injEq] at e; subst e; simp only [RDs] at r; rw [r]; rfl
  | d :: ds, ns, vs, e, r => by
    cases d <;> simp only [D.blsOf, reduceCtorEq, Option.map_eq_some_iff] at e
    obtain ⟨ms, e1, e2⟩ := e
    subst e2
    simp only [RDs, RD] at r
    obtain ⟨v, w, h1, h2, h3⟩ := r
    subst h1 h2
    rw [List.map_cons, blsOf_rd e1 h3]
def maxI : Int → List Int → Int
  | m, [] => m
  | m, n :: ns => maxI (if n > m then n else m) ns
def minI : Int → List Int → Int
  | m, [] => m
  | m, n :: ns => minI (if n < m then n else m) ns
theorem maxI_mem : ∀ (m : Int) (ns : List Int), maxI m ns ∈ m :: ns
  | m, [] => by simp [maxI]
  | m, n :: ns => by
    have h := maxI_mem (if n > m then n else m) ns
    simp only [maxI]
    rcases List.mem_cons.mp h with h | h
    · rw [h]; split <;> simp
    · exact List.mem_cons_of_mem _ (List.mem_cons_of_mem _ h)
theorem maxI_ge : ∀ (m : Int) (ns : List Int), ∀ x ∈ m :: ns, x ≤ maxI m ns
  | m, [], x, h => by simp at h; subst h; simp [maxI]
  | m, n :: ns, x, h => by
    have q := maxI_ge (if n > m then n else m) ns
    simp only [maxI]
    have h0 := q (if n > m then n else m) List.mem_cons_self
    rcases List.mem_cons.mp h with h | h
    · subst h; split at h0 <;> split <;> omega
    · rcases List.mem_cons.mp h with h | h
      · subst h; split at h0 <;> split <;> omega
      · exact q x (List.mem_cons_of_mem _ h)
theorem minI_mem : ∀ (m : Int) (ns : List Int), minI m ns ∈ m :: ns
  | m, [] => by simp [minI]
  | m, n :: ns => by
    have h := minI_mem (if n < m then n else m) ns
    simp only [minI]
    rcases List.mem_cons.mp h with h | h
    · rw [h]; split <;> simp
    · exact List.mem_cons_of_mem _ (List.mem_cons_of_mem _ h)
theorem minI_le : ∀ (m : Int) (ns : List Int), ∀ x ∈ m :: ns, minI m ns ≤ x
  | m, [], x, h => by simp at h; subst h; simp [minI]
  | m, n :: ns, x, h => by
    have q := minI_le (if n < m then n else m) ns
    simp only [minI]
    have h0 := q (if n < m then n else m) List.mem_cons_self
    rcases List.mem_cons.mp h with h | h
    · subst h; split at h0 <;> split <;> omega
    · rcases List.mem_cons.mp h with h | h
      · subst h; split at h0 <;> split <;> omega
      · exact q x (List.mem_cons_of_mem _ h)
inductive Bi where
  | len | abs | int | sum | max1 | min1 | max2 | min2 | all | any
  deriving DecidableEq
def Bi.f : Bi → List D → Option D
  | .len, [d] => d.itm.map fun ds => .int ds.length
  | .abs, [.int i] => some (.int (if i < 0 then -i else i))
  | .int, [.int i] => some (.int i)
  | .int, [.bl b] => some (.int (if b then 1 else 0))
  | .sum, [.lst ds] => (D.intsOf ds).map fun ns => .int ns.sum
  | .max1, [.lst ds] => (match D.intsOf ds with
    | some (n :: ns) => some (.int (maxI n ns))
    | _ => none)
  | .min1, [.lst ds] => (match D.intsOf ds with
    | some (n :: ns) => some (.int (minI n ns))
    | _ => none)
  | .max2, [.int i, .int j] => some (.int (if j > i then j else i))
  | .min2, [.int i, .int j] => some (.int (if j < i then j else i))
  | .all, [.lst ds] => (D.blsOf ds).map fun bs => .bl (bs.all id)
  | .any, [.lst ds] => (D.blsOf ds).map fun bs => .bl (bs.any id)
  | _, _ => none
def Bi.name : Bi → Str
  | .len => "len" | .abs => "abs" | .int => "int" | .sum => "sum" | .max1 => "max" | .min1 => "min" | .max2 => "max" | .min2 => "min" | .all => "all" | .any => "any"
def Bi.r (K : PySem.W.Frag) : Bi → List V → Hp → VK → Prop
  | .len => fun xs H Q => ∃ x n, xs = [x] ∧ LenV K x H n ∧ Q (.int n) H
  | .abs => fun xs H Q => ∃ i, xs = [.int i] ∧ Q (.int (if i < 0 then -i else i)) H
  | .int => fun xs H Q => (∃ i, xs = [.int i] ∧ Q (.int i) H) ∨ ∃ k, xs = [.bl k] ∧ Q (.int (if k then 1 else 0)) H
  | .sum => rSum K
  | .max1 => rMax K
  | .min1 => rMin K
  | .max2 => fun xs H Q => ∃ i j, xs = [.int i, .int j] ∧ Q (.int (if j > i then j else i)) H
  | .min2 => fun xs H Q => ∃ i j, xs = [.int i, .int j] ∧ Q (.int (if j < i then j else i)) H
  | .all => rAll K
  | .any => rAny K
theorem rds1 {K : PySem.W.Frag} {H : Hp} {d : D} {vs : List V} (h : RDs K H [d] vs) : ∃ v, vs = [v] ∧ RD K H d v := by
  simp only [RDs] at h
  obtain ⟨v, r, h1, h2, h3⟩ := h
  subst h3
  exact ⟨v, h1, h2⟩
theorem rds2 {K : PySem.W.Frag} {H : Hp} {d e : D} {vs : List V} (h : RDs K H [d, e] vs) : ∃ v w, vs = [v, w] ∧ RD K H d v ∧ RD K H e w := by
  simp only [RDs] at h
  obtain ⟨v, r, h1, h2, w, r2, h3, h4, h5⟩ := h
  subst h5 h3
  exact ⟨v, w, h1, h2, h4⟩
theorem len_of {K : PySem.W.Frag} {H : Hp} {d : D} {ds : List D} {v : V} (e : d.itm = some ds) (r : RD K H d v) : LenV K v H ds.length := by
  obtain ⟨p, vs, h1, h2, h3⟩ := rd_itm r e
  subst h1
  have hl := h3.length
  rcases h2 with h2 | h2
  · exact .inl ⟨vs, h2, hl⟩
  · exact .inr ⟨vs, h2, hl⟩
theorem Bi.ok {K : PySem.W.Frag} {b : Bi} {ds : List D} {z : D} {vs : List V} {H : Hp} {Q : VK} (e : b.f ds = some z) (r : RDs K H ds vs) (q : ∀ u, z.at = some u → Q u H) : b.r K vs H Q := by
  cases b <;> (rcases ds with _ | ⟨d, _ | ⟨d2, _ | ⟨d3, ds⟩⟩⟩) <;> try (simp only [Bi.f, reduceCtorEq] at e)
  case len.cons.nil =>
    obtain ⟨v, rfl, r1⟩ := rds1 r
    simp only [Bi.f, Option.map_eq_some_iff] at e
    obtain ⟨xs, e1, e2⟩ := e
    subst e2
    exact ⟨v, xs.length, rfl, len_of e1 r1, q _ rfl⟩
  case abs.cons.nil =>
    obtain ⟨v, rfl, r1⟩ := rds1 r
    cases d <;> simp only [Bi.f, Option.some.injEq, reduceCtorEq] at e
    subst e
    simp only [RD] at r1
    subst r1
    exact ⟨_, rfl, q _ rfl⟩
  case int.cons.nil =>
    obtain ⟨v, rfl, r1⟩ := rds1 r
    cases d <;> simp only [Bi.f, Option.some.injEq, reduceCtorEq] at e
    · subst e
      simp only [RD] at r1
      subst r1
      exact .inr ⟨_, rfl, q _ rfl⟩
    · subst e
      simp only [RD] at r1
      subst r1
      exact .inl ⟨_, rfl, q _ rfl⟩
  case sum.cons.nil =>
    obtain ⟨v, rfl, r1⟩ := rds1 r
    cases d <;> simp only [Bi.f, reduceCtorEq, Option.map_eq_some_iff] at e
    obtain ⟨ns, e1, e2⟩ := e
    subst e2
    simp only [RD] at r1
    obtain ⟨a, vs, h1, h2, h3⟩ := r1
    subst h1
    exact ⟨a, ns, rfl, by rw [← intsOf_rd e1 h3]; exact .of h2, q _ rfl⟩
  case max1.cons.nil =>
    obtain ⟨v, rfl, r1⟩ := rds1 r
    cases d <;> simp only [Bi.f, reduceCtorEq] at e
    rename_i xs
    cases en : D.intsOf xs with
    | none => rw [en] at e; cases e
    | some ns =>
      cases ns with
      | nil => rw [en] at e; cases e
      | cons n ns =>
        rw [en] at e
        have e2 := Option.some.inj e
        subst e2
        simp only [RD] at r1
        obtain ⟨a, vs, h1, h2, h3⟩ := r1
        subst h1
        refine ⟨a, n :: ns, rfl, by rw [← intsOf_rd en h3]; exact .of h2, by simp, fun m hm hall => ?_⟩
        have : m = maxI n ns := Int.le_antisymm (maxI_ge n ns m hm) (hall _ (maxI_mem n ns))
        rw [this]
        exact q _ rfl
  case min1.cons.nil =>
    obtain ⟨v, rfl, r1⟩ := rds1 r
    cases d <;> simp only [Bi.f, reduceCtorEq] at e
    rename_i xs
    cases en : D.intsOf xs with
    | none => rw [en] at e; cases e
    | some ns =>
      cases ns with
      | nil => rw [en] at e; cases e
      | cons n ns =>
        rw [en] at e
        have e2 := Option.some.inj e
        subst e2
        simp only [RD] at r1
        obtain ⟨a, vs, h1, h2, h3⟩ := r1
        subst h1
        refine ⟨a, n :: ns, rfl, by rw [← intsOf_rd en h3]; exact .of h2, by simp, fun m hm hall => ?_⟩
        have : m = minI n ns := Int.le_antisymm (hall _ (minI_mem n ns)) (minI_le n ns m hm)
        rw [this]
        exact q _ rfl
  case max2.cons.cons.nil =>
    obtain ⟨v, w, rfl, r1, r2⟩ := rds2 r
    cases d <;> cases d2 <;> simp only [Bi.f, Option.some.injEq, reduceCtorEq] at e
    subst e
    simp only [RD] at r1 r2
    subst r1 r2
    exact ⟨_, _, rfl, q _ rfl⟩
  case min2.cons.cons.nil =>
    obtain ⟨v, w, rfl, r1, r2⟩ := rds2 r
    cases d <;> cases d2 <;> simp only [Bi.f, Option.some.injEq, reduceCtorEq] at e
    subst e
    simp only [RD] at r1 r2
    subst r1 r2
    exact ⟨_, _, rfl, q _ rfl⟩
  case all.cons.nil =>
    obtain ⟨v, rfl, r1⟩ := rds1 r
    cases d <;> simp only [Bi.f, reduceCtorEq, Option.map_eq_some_iff] at e
    obtain ⟨ns, e1, e2⟩ := e
    subst e2
    simp only [RD] at r1
    obtain ⟨a, vs, h1, h2, h3⟩ := r1
    subst h1
    exact ⟨a, ns, rfl, by rw [← blsOf_rd e1 h3]; exact .of h2, q _ rfl⟩
  case any.cons.nil =>
    obtain ⟨v, rfl, r1⟩ := rds1 r
    cases d <;> simp only [Bi.f, reduceCtorEq, Option.map_eq_some_iff] at e
    obtain ⟨ns, e1, e2⟩ := e
    subst e2
    simp only [RD] at r1
    obtain ⟨a, vs, h1, h2, h3⟩ := r1
    subst h1
    exact ⟨a, ns, rfl, by rw [← blsOf_rd e1 h3]; exact .of h2, q _ rfl⟩
  all_goals (cases d <;> simp [Bi.f] at e)
end
end PL

/-! PL7: built-in calls, list + list, list * int, slices, what is moved and frozen -/
namespace PL
open PySem PySem.Spec PyProof.Rows L2

/-- neither a starred thing nor a slice -/
def plainE : Expr → Bool
  | .Starred .. => false
  | .Slice .. => false
  | _ => true
theorem starEach_plain {e : Expr} {es : List Expr} {env : Env} (h : plainE e = true) : starEach (e :: es) env = (false, eval e env) :: starEach es env := by
  cases e <;> first | rfl | (simp [plainE] at h)
theorem starAny : ∀ {es : List Expr} {env : Env} {pos : Pos}, es.all plainE = true → (backTo pos (starEach es env)).any (·.1) = false
  | [], env, pos, _ => rfl
  | e :: es, env, pos, h => by
    simp only [List.all_cons, Bool.and_eq_true] at h
    rw [starEach_plain h.1]
    have q := starAny (es := es) (env := env) (pos := pos) h.2
    unfold backTo at q ⊢
    simp only [List.map_cons, List.any_cons, Bool.false_or]
    exact q
theorem plainIx_of {b : Expr} (h : plainE b = true) : PlainIx b := by
  intro o i
  cases b <;> first | rfl | (simp [plainE] at h)
theorem noSl_of {b : Expr} (h : plainE b = true) : NoSl b := by
  intro o i
  cases b <;> first | rfl | (simp [plainE] at h)

section
variable {X : Cx} {W : WX} {R B : Fp} {H H' : Hp} {P P' : Nat → Fp} {σ : Sl} {env env' : List OV}

/-! ### built-ins that answer an atom -/
def fBi (b : Bi) (f : AF) : EF := fun env => bndA (f env) fun xs e => match OV.ds xs with
  | some ds => (b.f ds).map fun z => .ok (.fr z) e
  | none => none
theorem Bi.callR (hc : X.calm = true) {b : Bi} (h : b ≠ .int) : ∃ id, bootBuiltins b.name = some (.builtin id) ∧ CallR X (.builtin id) (b.r X.K) := by
  cases b
  · exact ⟨_, PySem.boot_len, call_len⟩
  · exact ⟨_, PyProof.Rows.boot_abs, call_abs⟩
  · exact absurd rfl h
  · exact ⟨_, boot_sum, cr_sum hc⟩
  · exact ⟨_, boot_max, cr_max hc⟩
  · exact ⟨_, boot_min, cr_min hc⟩
  · exact ⟨_, boot_max, call_max2 hc⟩
  · exact ⟨_, boot_min, call_min2 hc⟩
  · exact ⟨_, boot_all, cr_all hc⟩
  · exact ⟨_, boot_any, cr_any hc⟩
/-- an expression of arguments and what is made of their values -/
theorem SE.args {es : List Expr} {e : Expr} {f : AF} {k : List OV → List OV → Option Ou} {r : List V → Hp → VK → Prop} (sa : SA X W es f) (he : ∀ t, PA X es t → PE X e (fun σ H Q => t σ H fun vs H1 => r vs H1 Q))
    (hk : ∀ R H P σ env, At X.K R H P σ env → ∀ xs e1 vs H1 P1 B1 (Q : VK), Go X.K R H P σ H1 P1 e1 B1 → ROs X.K H1 (msk H1 (own P1 fun q => B1 q ∨ R q)) xs vs B1 → EPost X W R H P σ (k xs e1) Q → r vs H1 Q) :
    SE X W e (fun env => bndA (f env) k) := by
  obtain ⟨ta, pa, qa⟩ := sa
  refine ⟨_, he ta pa, fun R H P σ env a Q hp => qa R H P σ env a _ ?_⟩
  replace hp : EPost X W R H P σ (bndA (f env) k) Q := hp
  cases ea : f env with
  | none => rw [ea] at hp; exact hp
  | some s =>
    cases s with
    | exc c => rw [ea] at hp; exact hp
    | ok xs e1 =>
      rw [ea, bndA_ok] at hp
      exact fun vs H1 P1 B1 g1 r1 => hk R H P σ env a xs e1 vs H1 P1 B1 Q g1 r1 hp
theorem SE.bi {b : Bi} {p pos : Pos} {e : Expr} {es : List Expr} {f : AF} (hc : X.calm = true) (hg : Gl X b.name) (hm : X.mg b.name = none) (he : (e :: es).all plainE = true) (sa : SA X W (e :: es) f) :
    SE X W (.Call (.Name b.name p) (e :: es) [] pos) (fBi b f) := by
  simp only [List.all_cons, Bool.and_eq_true] at he
  have hn : b.name ≠ "__name__" := by cases b <;> decide
  have hd : (b.name == ("__debug__" : Str)) = false := by cases b <;> decide
  refine SE.args (r := b.r X.K) sa (fun t pa => ?_) (fun R H P σ env a xs e1 vs H1 P1 B1 Q g1 r1 hp => ?_)
  · by_cases h : b = .int
    · subst h
      exact pe_callTy call_int1 hg hm boot_int pa hn hd (starEach_plain he.1) (starAny he.2)
    · obtain ⟨id, h1, h2⟩ := Bi.callR hc h
      exact pe_callB h2 hg hm h1 pa hn hd (starEach_plain he.1) (starAny he.2)
  · cases ed : OV.ds xs with
    | none => rw [ed] at hp; exact hp.elim
    | some ds =>
      cases ef : b.f ds with
      | none => simp only [ed, ef, Option.map_none] at hp; exact hp.elim
      | some z =>
        simp only [ed, ef, Option.map_some] at hp
        exact Bi.ok ef (r1.rd msk_same ed) fun u hu => hp.atom hu g1

/-! ### isinstance -/
/-- the kinds of data, and what isinstance says of the built-in class T -/
def D.ty : D → Option String
  | .non => some "NoneType" | .bl _ => some "bool" | .int _ => some "int" | .str _ => some "str" | .tup _ => some "tuple" | .lst _ => some "list" | .scr _ => some "list" | .dct _ _ => some "dict" | .exc _ => none
inductive Ti where
  | int | bool | list | tuple
def Ti.s : Ti → String
  | .int => "int" | .bool => "bool" | .list => "list" | .tuple => "tuple"
def Ti.name : Ti → Str
  | .int => "int" | .bool => "bool" | .list => "list" | .tuple => "tuple"
def Ti.f : Ti → D → Option D
  | .int, .int _ => some (.bl true)
  | .int, .bl _ => some (.bl true)
  | .bool, .bl _ => some (.bl true)
  | .list, .lst _ => some (.bl true)
  | .list, .scr _ => some (.bl true)
  | .tuple, .tup _ => some (.bl true)
  | _, .exc _ => none
  | _, _ => some (.bl false)
theorem Ti.boot (t : Ti) : bootBuiltins t.name = some (.type t.s) := by
  cases t
  · exact boot_int
  · exact boot_bool
  · exact boot_list
  · exact boot_tuple
theorem tyx {K : PySem.W.Frag} {H : Hp} {d : D} {v : V} {s : String} (e : d.ty = some s) (r : RD K H d v) : TyX K H v (.type s) := by
  cases d <;> simp only [D.ty, Option.some.injEq, reduceCtorEq] at e <;> subst e <;> simp only [RD] at r
  · subst r; exact .base .non
  · subst r; exact .base (.bl _)
  · subst r; exact .base (.int _)
  · subst r; exact .base (.str _)
  · obtain ⟨a, vs, rfl, h, _⟩ := r; exact .base (.tup h)
  · obtain ⟨a, vs, rfl, h, _⟩ := r; exact .base (.lst h)
  · obtain ⟨a, rfl, h⟩ := r
    rcases h with (h | ⟨o, h⟩) | ⟨o, its, n, h1, h2, _⟩
    · exact .base (.lst h)
    · exact .base (.frz h)
    · exact .kList h1 h2
  · obtain ⟨a, vs, rfl, h, _⟩ := r; exact .base (.dK h)
theorem Ti.kit {t : Ti} {d z : D} (e : t.f d = some z) : ∃ s b, d.ty = some s ∧ kitB s t.s = some b ∧ z = .bl b := by
  cases t <;> cases d <;> simp only [Ti.f, Option.some.injEq, reduceCtorEq] at e <;> subst e <;> exact ⟨_, _, rfl, by decide +kernel, rfl⟩
theorem Ti.at {t : Ti} {d z : D} (e : t.f d = some z) : ∃ u, z.at = some u := by
  obtain ⟨s, b, _, _, rfl⟩ := Ti.kit e
  exact ⟨_, rfl⟩
theorem SE.isi {t : Ti} {a : Expr} {fa : EF} {p p2 pos : Pos} (hg : Gl X "isinstance") (hm : X.mg "isinstance" = none) (hg2 : Gl X t.name) (hm2 : X.mg t.name = none) (ha : plainE a = true) (sa : SE X W a fa) :
    SE X W (.Call (.Name "isinstance" p) [a, .Name t.name p2] [] pos) (PL.op1 fa t.f) := by
  have hn : t.name ≠ "__name__" := by cases t <;> decide
  have hd : (t.name == ("__debug__" : Str)) = false := by cases t <;> decide
  refine SE.op1 (r := fun v H Q => rIsi X.K [v, .ty t.s] H Q) sa (fun ta pa => ?_) fun da z v H Q e r q => ?_
  · exact pe_callB call_isi hg hm PyProof.Rows.boot_isinstance (pa_cons pa (pa_cons (pe_bltn (v := .ty t.s) hg2 hm2 t.boot rfl hn hd) pa_nil (starEach_plain rfl)) (starEach_plain ha)) (by decide) (by decide) (starEach_plain ha) (starAny rfl)
  · obtain ⟨s, b, h1, h2, rfl⟩ := Ti.kit e
    exact ⟨v, .ty t.s, .type s, .type t.s, b, rfl, .ty _, tyx h1 r, kit_ty h2, q _ rfl⟩

/-! ### list(x), list(range(..)) -/
def fList (fa : EF) : EF := fun env => bnd (fa env) fun x e => match x.itm with
  | some xs => some (.ok (.ol xs) e)
  | none => none
theorem Go.out (a : At X.K R H P σ env) (g : Go X.K R H P σ H' P' env' B) : ∀ q, own P' (fun q => B q ∨ R q) q → ∃ vs, H' q = some (.lst vs) := fun q z => by
  rcases z with z | z | z
  · exact g.er.dom q z
  · exact g.bd q z
  · obtain ⟨vs, e⟩ := a.rd q z
    exact ⟨vs, g.same _ _ e⟩
theorem post_lst' {xs : List OV} {vs : List V} {p : Addr} {B2 : Fp} {Q : VK} (a : At X.K R H P σ env) (g : Go X.K R H P σ H' P' env' B) (hs : ∀ q, B2 q → B q) (r : ROs X.K H' (msk H' (own P' fun q => B q ∨ R q)) xs vs B2) (hp : H' p = none)
    (q : EPost X W R H P σ (some (.ok (.ol xs) env')) Q) : Q (.ref p) (upd H' p (.lst vs)) :=
  post_lst a (g.weak hs) (r.sub fun q z => by
    rcases z with z | z | z
    · exact .inl z
    · exact .inr (.inl (hs q z))
    · exact .inr (.inr z)) hp q
theorem SE.listOf {a : Expr} {fa : EF} {p pos : Pos} (hg : Gl X "list") (hm : X.mg "list" = none) (ha : plainE a = true) (sa : SE X W a fa) : SE X W (.Call (.Name "list" p) [a] [] pos) (fList fa) := by
  obtain ⟨ta, pa, qa⟩ := sa
  refine ⟨_, pe_callTy call_list_of hg hm boot_list (pa_cons pa pa_nil (starEach_plain ha)) (by decide) (by decide) (starEach_plain ha) rfl, fun R H P σ env a Q hp => ?_⟩
  unfold fList at hp
  refine qa R H P σ env a _ ?_
  cases ea : fa env with
  | none => rw [ea] at hp; exact hp
  | some s =>
    cases s with
    | exc c => rw [ea] at hp; exact hp
    | ok x e1 =>
      rw [ea, bnd_ok] at hp
      intro v H1 P1 B1 g1 r1
      cases ei : x.itm with
      | none => rw [ei] at hp; exact hp.elim
      | some xs =>
        rw [ei] at hp
        obtain ⟨q, vs, h1, h2, A', h3, h4⟩ := RO.itm (g1.out a) r1 ei
        subst h1
        exact ⟨q, vs, rfl, h2, fun l hl => post_lst' a g1 h4 h3 hl hp⟩
def rngD (a b : Int) : List OV := (List.range (b - a).toNat).map fun i => .fr (.int (a + (i : Nat)))
theorem ros_rng {K : PySem.W.Frag} {H F : Hp} (a : Int) : ∀ (l : List Nat), ROs K H F (l.map fun i => .fr (.int (a + (i : Nat)))) (l.map fun i => V.int (a + (i : Nat))) Fp.emp
  | [] => by simp [ROs]
  | i :: l => by
    simp only [List.map_cons, ROs]
    refine ⟨_, _, Fp.emp, Fp.emp, rfl, ?_, ros_rng a l, fun _ z => z.elim, fun q => by simp [Fp.emp]⟩
    simp [RO, RD]
def fLR1 (fa : EF) : EF := fun env => bnd (fa env) fun x e => match x.d with
  | some (.int n) => if -1000000 ≤ n ∧ n ≤ LM then some (.ok (.ol (rngD 0 n)) e) else none
  | _ => none
theorem SE.listRg1 {a : Expr} {fa : EF} {p p2 pos pos2 : Pos} (hc : X.calm = true) (hg : Gl X "list") (hm : X.mg "list" = none) (hg2 : Gl X "range") (hm2 : X.mg "range" = none) (ha : plainE a = true) (sa : SE X W a fa) :
    SE X W (.Call (.Name "list" p) [.Call (.Name "range" p2) [a] [] pos2] [] pos) (fLR1 fa) := by
  obtain ⟨ta, pa, qa⟩ := sa
  refine ⟨_, pe_listRg hc hg hm (prg_1 hg2 hm2 pa (starEach_plain ha)) (starEach_plain rfl), fun R H P σ env a Q hp => ?_⟩
  unfold fLR1 at hp
  refine qa R H P σ env a _ ?_
  cases ea : fa env with
  | none => rw [ea] at hp; exact hp
  | some s =>
    cases s with
    | exc c => rw [ea] at hp; exact hp
    | ok x e1 =>
      rw [ea, bnd_ok] at hp
      intro v H1 P1 B1 g1 r1
      cases ed : x.d with
      | none => rw [ed] at hp; exact hp.elim
      | some d =>
        cases d <;> simp only [ed] at hp <;> try exact hp.elim
        rename_i n
        split at hp
        · rename_i hn
          have hv := r1.rd msk_same ed
          simp only [RD] at hv
          have hl : LM = 1000000 := rfl
          refine ⟨n, hv, ⟨by omega, by omega, by omega, by omega, by omega⟩, fun q hq => ?_⟩
          exact post_lst' (B2 := Fp.emp) a g1 (fun q z => z.elim) (ros_rng 0 _) hq hp
        · exact hp.elim

/-! ### two, then what is made of them -/
theorem SE.two {a b e : Expr} {fa fb : EF} {k : OV → OV → List OV → Option Ou} {r : R2} (sa : SE X W a fa) (sb : SE X W b fb) (he : ∀ ta tb, PE X a ta → PE X b tb → PE X e (tOp r ta tb))
    (hk : ∀ R H P σ env, At X.K R H P σ env → ∀ x y e2 v w H2 P2 B1 B2 (Q : VK), Go X.K R H P σ H2 P2 e2 (fun q => B1 q ∨ B2 q) → (∀ q, B1 q → ¬ B2 q) → RO X.K H2 (msk H2 (own P2 fun q => (B1 q ∨ B2 q) ∨ R q)) x v B1 →
      RO X.K H2 (msk H2 (own P2 fun q => (B1 q ∨ B2 q) ∨ R q)) y w B2 → EPost X W R H P σ (k x y e2) Q → r v w H2 Q) :
    SE X W e (fun env => bnd (fa env) fun x e1 => bnd (fb e1) fun y e2 => k x y e2) := by
  obtain ⟨ta, pa, qa⟩ := sa
  obtain ⟨tb, pb, qb⟩ := sb
  refine ⟨_, he ta tb pa pb, fun R H P σ env at_ Q hp => ?_⟩
  refine PL.two (a := a) (b := b) (T := fun v w H2 => r v w H2 Q) (k := fun _ _ _ => none) qa qb at_ (fun c e => ?_) (fun x e1 c e e' => ?_) (fun e => ?_) (fun x e1 e e' => ?_) (fun x e1 y e2 v w H2 P2 B1 B2 ea eb g dj r1 r2 => ?_)
  · simp only [e, bnd_exc] at hp; exact hp
  · simp only [e, bnd_ok, e', bnd_exc] at hp; exact hp
  · simp only [e, bnd_none] at hp; exact hp
  · simp only [e, bnd_ok, e', bnd_none] at hp; exact hp
  · simp only [ea, bnd_ok, eb] at hp
    exact hk R H P σ env at_ x y e2 v w H2 P2 B1 B2 Q g dj r1 r2 hp
/-- the items of a list that may be joined to another -/
def OV.li : OV → Option (List OV)
  | .fr (.lst ds) => some (ds.map .fr)
  | .vw (.lst ds) => some (ds.map vwl)
  | .ol xs => some xs
  | _ => none
theorem RO.li {K : PySem.W.Frag} {H : Hp} {O A : Fp} (ho : ∀ q, O q → ∃ vs, H q = some (.lst vs)) {x : OV} {v : V} {xs : List OV} (h : RO K H (msk H O) x v A) (e : x.li = some xs) :
    ∃ p vs, v = .ref p ∧ H p = some (.lst vs) ∧ ∃ A', ROs K H (msk H O) xs vs A' ∧ ∀ q, A' q → A q := by
  cases x with
  | hole => simp [OV.li] at e
  | ot ys => simp [OV.li] at e
  | fr d =>
    cases d <;> simp only [OV.li, Option.some.injEq, reduceCtorEq] at e
    subst e
    simp only [RO, RD] at h
    obtain ⟨⟨p, vs, h1, h2, h3⟩, _⟩ := h
    exact ⟨p, vs, h1, msk_same _ _ h2, Fp.emp, ros_fr h3, fun q z => z.elim⟩
  | vw d =>
    cases d <;> simp only [OV.li, Option.some.injEq, reduceCtorEq] at e
    subst e
    simp only [RO, RD] at h
    obtain ⟨⟨p, vs, h1, h2, h3⟩, _⟩ := h
    exact ⟨p, vs, h1, h2, Fp.emp, ros_vwl ho h3, fun q z => z.elim⟩
  | ol ys =>
    simp only [OV.li, Option.some.injEq] at e
    subst e
    simp only [RO] at h
    obtain ⟨p, vs, B, h1, h2, h3, h4, h5⟩ := h
    exact ⟨p, vs, h1, h2, B, h3, fun q b => (h5 q).mpr (.inr b)⟩
theorem ROs.append {K : PySem.W.Frag} {H F : Hp} : ∀ {xs ys : List OV} {vs ws : List V} {A B : Fp}, ROs K H F xs vs A → ROs K H F ys ws B → (∀ q, A q → ¬ B q) → ROs K H F (xs ++ ys) (vs ++ ws) fun q => A q ∨ B q
  | [], ys, vs, ws, A, B, h, h', dj => by
    simp only [ROs] at h
    obtain ⟨rfl, h⟩ := h
    exact ROs.iff (fun q => ⟨fun z => z.elim (fun z => absurd z (h q)) id, .inr⟩) h'
  | x :: xs, ys, vs, ws, A, B, h, h', dj => by
    simp only [ROs] at h
    obtain ⟨v, r, C, D, h1, h2, h3, h4, h5⟩ := h
    subst h1
    simp only [List.cons_append, ROs]
    refine ⟨v, r ++ ws, C, _, rfl, h2, ROs.append h3 h' fun q z => dj q ((h5 q).mpr (.inr z)), fun q c z => ?_, fun q => ?_⟩
    · rcases z with z | z
      · exact h4 q c z
      · exact dj q ((h5 q).mpr (.inl c)) z
    · rw [h5 q]
      exact ⟨fun z => z.elim (fun z => z.elim .inl fun z => .inr (.inl z)) fun z => .inr (.inr z), fun z => z.elim (fun z => .inl (.inl z)) fun z => z.elim (fun z => .inl (.inr z)) .inr⟩
def kAdd (x y : OV) (e : List OV) : Option Ou := match x.li, y.li with
  | some xs, some ys => if xs.length + ys.length ≤ LM then some (.ok (.ol (xs ++ ys)) e) else none
  | _, _ => match x.d, y.d with
    | some (.int i), some (.int j) => some (.ok (.fr (.int (i + j))) e)
    | _, _ => none
def fAdd (fa fb : EF) : EF := fun env => bnd (fa env) fun x e1 => bnd (fb e1) fun y e2 => kAdd x y e2
theorem SE.add {a b : Expr} {fa fb : EF} {pos : Pos} (sa : SE X W a fa) (sb : SE X W b fb) : SE X W (.BinOp a .Add b pos) (fAdd fa fb) := by
  refine SE.two (r := fun x y H Q => O2.add.r X.K x y H Q ∨ rCat x y H Q) sa sb (fun ta tb pa pb => pe_op (op_add.or op_cat) pa pb) (fun R H P σ env at_ x y e2 v w H2 P2 B1 B2 Q g dj r1 r2 hp => ?_)
  unfold kAdd at hp
  have hints : ∀ {i j : Int}, x.d = some (.int i) → y.d = some (.int j) → EPost X W R H P σ (some (.ok (.fr (.int (i + j))) e2)) Q → O2.add.r X.K v w H2 Q := fun {i j} h1 h2 hq => by
    have e1 := r1.rd msk_same h1
    have e2 := r2.rd msk_same h2
    simp only [RD] at e1 e2
    exact ⟨i, j, e1, e2, hq.atom rfl g⟩
  cases ex : x.li with
  | some xs =>
    cases ey : y.li with
    | some ys =>
      simp only [ex, ey] at hp
      split at hp
      · rename_i hl
        obtain ⟨p, vs, h1, h2, A1, h3, h4⟩ := RO.li (g.out at_) r1 ex
        obtain ⟨p', ws, k1, k2, A2, k3, k4⟩ := RO.li (g.out at_) r2 ey
        refine .inr ⟨p, p', vs, ws, h1, k1, h2, k2, ?_, fun q hq => ?_⟩
        · have := h3.length
          have := k3.length
          have := lm_line
          omega
        · exact post_lst' at_ g (fun q z => z.elim (fun z => .inl (h4 q z)) fun z => .inr (k4 q z)) (h3.append k3 fun q z z' => dj q (h4 q z) (k4 q z')) hq hp
      · exact hp.elim
    | none =>
      simp only [ex, ey] at hp
      split at hp
      · rename_i i j e1 e2; exact .inl (hints e1 e2 hp)
      · exact hp.elim
  | none =>
    simp only [ex] at hp
    split at hp
    · rename_i i j e1 e2; exact .inl (hints e1 e2 hp)
    · exact hp.elim
def kMul (x y : OV) (e : List OV) : Option Ou := match x.li, y.d with
  | some xs, some (.int n) => (match OV.frs xs with
    | some ds => if ds.length * n.toNat ≤ LM ∧ -1000000 ≤ n ∧ n ≤ 1000000 then some (.ok (.ol ((List.replicate n.toNat ds).flatten.map .fr)) e) else none
    | none => none)
  | _, _ => match x.d, y.d with
    | some (.int i), some (.int j) => if mulOk i j then some (.ok (.fr (.int (i * j))) e) else none
    | _, _ => none
def fMul (fa fb : EF) : EF := fun env => bnd (fa env) fun x e1 => bnd (fb e1) fun y e2 => kMul x y e2
theorem RDs.rep {K : PySem.W.Frag} {H : Hp} {ds : List D} {vs : List V} (h : RDs K H ds vs) : ∀ n : Nat, RDs K H (List.replicate n ds).flatten (List.replicate n vs).flatten
  | 0 => by simp [RDs]
  | n + 1 => by
    simp only [List.replicate_succ, List.flatten_cons]
    exact h.append (RDs.rep h n)
theorem SE.mul {a b : Expr} {fa fb : EF} {pos : Pos} (sa : SE X W a fa) (sb : SE X W b fb) : SE X W (.BinOp a .Mult b pos) (fMul fa fb) := by
  refine SE.two (r := fun x y H Q => O2.mul.r X.K x y H Q ∨ rRep x y H Q) sa sb (fun ta tb pa pb => pe_op (op_mulG.or op_rep) pa pb) (fun R H P σ env at_ x y e2 v w H2 P2 B1 B2 Q g dj r1 r2 hp => ?_)
  unfold kMul at hp
  have hints : ∀ {i j : Int}, x.d = some (.int i) → y.d = some (.int j) → EPost X W R H P σ (if mulOk i j then some (.ok (.fr (.int (i * j))) e2) else none) Q → O2.mul.r X.K v w H2 Q := fun {i j} h1 h2 hq => by
    have e1 := r1.rd msk_same h1
    have e2 := r2.rd msk_same h2
    simp only [RD] at e1 e2
    split at hq
    · rename_i hm; exact ⟨i, j, e1, e2, hm, hq.atom rfl g⟩
    · exact hq.elim
  split at hp
  · rename_i xs n ex ey
    cases ef : OV.frs xs with
    | none => rw [ef] at hp; exact hp.elim
    | some ds =>
      simp only [ef] at hp
      split at hp
      · rename_i hl
        obtain ⟨p, vs, h1, h2, A1, h3, h4⟩ := RO.li (g.out at_) r1 ex
        have hw := r2.rd msk_same ey
        simp only [RD] at hw
        have rd := ros_frs h3 ef
        have hlen := rd.length
        have hLM : LM = 1000000 := rfl
        have := lm_line
        refine .inr ⟨p, n, vs, h1, hw, h2, by omega, by omega, by rw [← hlen]; omega, fun q hq => ?_⟩
        exact post_lst' (B2 := Fp.emp) at_ g (fun q z => z.elim) (ros_fr (RDs.rep rd n.toNat)) hq hp
      · exact hp.elim
  · split at hp
    · rename_i i j e1 e2; exact .inl (hints e1 e2 hp)
    · exact hp.elim
end
end PL

/-! PL8: places (a name and indices), what is moved out of them or frozen there; slices; sorted -/
namespace PL
open PySem PySem.Spec PyProof.Rows L2

/-! ### trees by paths -/
def OV.mod : OV → List Int → (OV → Option OV) → Option OV
  | x, [], f => f x
  | .ol xs, k :: ks, f => (ixN xs.length k).bind fun j => (xs[j]?).bind fun y => (OV.mod y ks f).map fun r => .ol (xs.set j r)
  | .ot xs, k :: ks, f => (ixN xs.length k).bind fun j => (xs[j]?).bind fun y => (OV.mod y ks f).map fun r => .ot (xs.set j r)
  | _, _ :: _, _ => none
def OV.get : OV → List Int → Option OV
  | x, [] => some x
  | .ol xs, k :: ks => (ixN xs.length k).bind fun j => (xs[j]?).bind fun y => OV.get y ks
  | .ot xs, k :: ks => (ixN xs.length k).bind fun j => (xs[j]?).bind fun y => OV.get y ks
  | _, _ :: _ => none
/-- from the value v by the indices to w -/
def HPath (H : Hp) : V → List Int → V → Prop
  | v, [], w => v = w
  | v, k :: ks, w => ∃ p vs u, v = .ref p ∧ (H p = some (.lst vs) ∨ H p = some (.tup vs)) ∧ atI vs k = some u ∧ HPath H u ks w
theorem HPath.mono {H H' : Hp} (s : Same H H') : ∀ {ks : List Int} {v w : V}, HPath H v ks w → HPath H' v ks w
  | [], v, w, h => h
  | k :: ks, v, w, ⟨p, vs, u, h1, h2, h3, h4⟩ => ⟨p, vs, u, h1, h2.elim (fun h => .inl (s _ _ h)) (fun h => .inr (s _ _ h)), h3, HPath.mono s h4⟩
theorem HPath.snoc {H : Hp} : ∀ {ks : List Int} {k : Int} {v w : V}, HPath H v (ks ++ [k]) w → ∃ u, HPath H v ks u ∧ HPath H u [k] w
  | [], k, v, w, h => ⟨v, rfl, h⟩
  | k' :: ks, k, v, w, ⟨p, vs, u, h1, h2, h3, h4⟩ => by
    obtain ⟨u', q1, q2⟩ := HPath.snoc h4
    exact ⟨u', ⟨p, vs, u, h1, h2, h3, q1⟩, q2⟩
theorem set_nv {xs : List OV} {j : Nat} {y : OV} (h : OV.nvs xs = true) (hy : y.nv = true) : OV.nvs (xs.set j y) = true := nvs_iff.mpr fun z hz => by
  rcases List.mem_or_eq_of_mem_set hz with h1 | h1
  · exact nvs_iff.mp h z h1
  · rw [h1]; exact hy
/-- one item of a list of trees told anew -/
theorem RI.set {K : PySem.W.Frag} {H F H' F' : Hp} {xs : List OV} {vs : List V} {P : Nat → Fp} (h : RI K H F xs vs P) {j : Nat} {y : OV} {u : V} {B : Fp} (hj : xs[j]? ≠ none) (hu : vs[j]? = some u) (hy : RO K H' F' y u B)
    (dj : ∀ i q, i ≠ j → P i q → ¬ B q) (keep : ∀ i x v, i ≠ j → xs[i]? = some x → vs[i]? = some v → RO K H F x v (P i) → RO K H' F' x v (P i)) : RI K H' F' (xs.set j y) vs (setF P j B) := by
  have hl : j < xs.length := by
    rcases Nat.lt_or_ge j xs.length with q | q
    · exact q
    · exact absurd (List.getElem?_eq_none q) hj
  refine ⟨⟨fun a b q ha hb => ?_, fun a q ha => ?_⟩, by simp [h.len], fun a x e => ?_⟩
  · by_cases ea : a = j
    · by_cases eb : b = j
      · rw [ea, eb]
      · subst ea; rw [setF_same] at ha; rw [setF_ne eb] at hb; exact absurd ha (dj b q eb hb)
    · by_cases eb : b = j
      · subst eb; rw [setF_same] at hb; rw [setF_ne ea] at ha; exact absurd hb (dj a q ea ha)
      · rw [setF_ne ea] at ha; rw [setF_ne eb] at hb; exact h.fam.apart a b q ha hb
  · rw [List.length_set]
    by_cases ea : a = j
    · rw [ea]; exact hl
    · rw [setF_ne ea] at ha; exact h.fam.lt a q ha
  · by_cases ea : a = j
    · subst ea
      rw [List.getElem?_set_self hl] at e
      have e' := Option.some.inj e
      subst e'
      rw [setF_same]
      exact ⟨u, hu, hy⟩
    · rw [List.getElem?_set_ne (Ne.symm ea)] at e
      obtain ⟨v, e1, e2⟩ := h.at_ a x e
      rw [setF_ne ea]
      exact ⟨v, e1, keep a x v ea e e1 e2⟩
theorem ixN_lt {n : Nat} {k : Int} {j : Nat} (h : ixN n k = some j) : j < n := (ixN_seq h).2.1
/-- THE FOCUS: what stands at a path, and the whole when it is told anew -/
theorem mod_ok {K : PySem.W.Frag} {H F : Hp} {f : OV → Option OV} : ∀ {ks : List Int} {x x' : OV} {v : V} {A : Fp}, x.nv = true → RO K H F x v A → x.mod ks f = some x' →
    ∃ (s s' : OV) (w : V) (B C : Fp), x.get ks = some s ∧ s.nv = true ∧ f s = some s' ∧ HPath H v ks w ∧ RO K H F s w B ∧ (∀ q, B q → ¬ C q) ∧ (∀ q, A q ↔ B q ∨ C q) ∧
      ∀ {H' F' : Hp} {B' : Fp}, (∀ q vs, H q = some (.tup vs) → H' q = some (.tup vs)) → Same F F' → (∀ q, C q → H' q = H q) → RO K H' F' s' w B' → (∀ q, B' q → ¬ C q) → RO K H' F' x' v (fun q => B' q ∨ C q) ∧ (s'.nv = true → x'.nv = true)
  | [], x, x', v, A, n, h, e => by
    refine ⟨x, x', v, A, Fp.emp, rfl, n, e, rfl, h, fun _ _ z => z, fun q => by simp [Fp.emp], fun {H' F' B'} t fr c r dj => ⟨?_, id⟩⟩
    exact r.iff fun q => by simp [Fp.emp]
  | k :: ks, .ol xs, x', v, A, n, h, e => by
    simp only [OV.mod, Option.bind_eq_some_iff, Option.map_eq_some_iff] at e
    obtain ⟨j, e1, y, e2, r, e3, e4⟩ := e
    subst e4
    simp only [OV.nv] at n
    simp only [RO] at h
    obtain ⟨p, vs, D, h1, h2, h3, h4, h5⟩ := h
    obtain ⟨P, k1, k2⟩ := RI.of h3
    obtain ⟨u, e5, e6⟩ := k1.at_ j y e2
    have ny := nvs_iff.mp n y (List.mem_of_getElem? e2)
    obtain ⟨s, s', w, B, C, g0, gn, g1, g2, g3, g4, g5, g6⟩ := mod_ok (ks := ks) ny e6 e3
    have hat : atI vs k = some u := by
      unfold atI
      rw [k1.len, e1]
      exact e5
    refine ⟨s, s', w, B, fun q => q = p ∨ C q ∨ ∃ i, i ≠ j ∧ P i q, by simp only [OV.get, e1, Option.bind_some, e2, g0], gn, g1, ⟨p, vs, u, h1, .inl h2, hat, g2⟩, g3, fun q b z => ?_, fun q => ?_, fun {H' F' B'} t fr c r' dj => ⟨?_, fun ns => ?_⟩⟩
    · rcases z with z | z | ⟨i, hi, z⟩
      · subst z; exact h4 ((k2 q).mpr ⟨j, (g5 q).mpr (.inl b)⟩)
      · exact g4 q b z
      · exact hi (k1.fam.apart i j q z ((g5 q).mpr (.inl b)))
    · rw [h5 q, k2 q]
      constructor
      · rintro (z | ⟨i, z⟩)
        · exact .inr (.inl z)
        · by_cases hi : i = j
          · subst hi
            rcases (g5 q).mp z with z | z
            · exact .inl z
            · exact .inr (.inr (.inl z))
          · exact .inr (.inr (.inr ⟨i, hi, z⟩))
      · rintro (z | z | z | ⟨i, hi, z⟩)
        · exact .inr ⟨j, (g5 q).mpr (.inl z)⟩
        · exact .inl z
        · exact .inr ⟨j, (g5 q).mpr (.inr z)⟩
        · exact .inr ⟨i, z⟩
    · have inner := (g6 (H' := H') (F' := F') (B' := B') t fr (fun q z => c q (.inr (.inl z))) r' fun q z z' => dj q z (.inr (.inl z'))).1
      have hp : H' p = some (.lst vs) := by rw [c p (.inl rfl)]; exact h2
      have RI' := RI.set k1 (j := j) (y := r) (u := u) (B := fun q => B' q ∨ C q) (by rw [e2]; simp) e5 inner (fun i q hi z z' => ?_) (fun i x0 v0 hi ex ev r0 => ?_)
      · simp only [RO]
        refine ⟨p, vs, _, h1, hp, RI'.to, fun ⟨i, z⟩ => ?_, fun q => ?_⟩
        · by_cases hi : i = j
          · subst hi
            rw [setF_same] at z
            rcases z with z | z
            · exact dj p z (.inl rfl)
            · exact h4 ((k2 p).mpr ⟨i, (g5 p).mpr (.inr z)⟩)
          · rw [setF_ne hi] at z
            exact h4 ((k2 p).mpr ⟨i, z⟩)
        · constructor
          · rintro (z | z | z | ⟨i, hi, z⟩)
            · exact .inr ⟨j, by rw [setF_same]; exact .inl z⟩
            · exact .inl z
            · exact .inr ⟨j, by rw [setF_same]; exact .inr z⟩
            · exact .inr ⟨i, by rw [setF_ne hi]; exact z⟩
          · rintro (z | ⟨i, z⟩)
            · exact .inr (.inl z)
            · by_cases hi : i = j
              · subst hi
                rw [setF_same] at z
                rcases z with z | z
                · exact .inl z
                · exact .inr (.inr (.inl z))
              · rw [setF_ne hi] at z
                exact .inr (.inr (.inr ⟨i, hi, z⟩))
      · rcases z' with z' | z'
        · exact dj q z' (.inr (.inr ⟨i, hi, z⟩))
        · exact hi (k1.fam.apart i j q z ((g5 q).mpr (.inr z')))
      · exact RO.cong t fr (fun q z => c q (.inr (.inr ⟨i, hi, z⟩))) (nvs_iff.mp n x0 (List.mem_of_getElem? ex)) r0
    · simp only [OV.nv]
      have inner := (g6 (H' := H') (F' := F') (B' := B') t fr (fun q z => c q (.inr (.inl z))) r' fun q z z' => dj q z (.inr (.inl z'))).2 ns
      exact set_nv n inner
  | k :: ks, .ot xs, x', v, A, n, h, e => by
    simp only [OV.mod, Option.bind_eq_some_iff, Option.map_eq_some_iff] at e
    obtain ⟨j, e1, y, e2, r, e3, e4⟩ := e
    subst e4
    simp only [OV.nv] at n
    simp only [RO] at h
    obtain ⟨p, vs, h1, h2, h3⟩ := h
    obtain ⟨P, k1, k2⟩ := RI.of h3
    obtain ⟨u, e5, e6⟩ := k1.at_ j y e2
    have ny := nvs_iff.mp n y (List.mem_of_getElem? e2)
    obtain ⟨s, s', w, B, C, g0, gn, g1, g2, g3, g4, g5, g6⟩ := mod_ok (ks := ks) ny e6 e3
    have hat : atI vs k = some u := by
      unfold atI
      rw [k1.len, e1]
      exact e5
    refine ⟨s, s', w, B, fun q => C q ∨ ∃ i, i ≠ j ∧ P i q, by simp only [OV.get, e1, Option.bind_some, e2, g0], gn, g1, ⟨p, vs, u, h1, .inr h2, hat, g2⟩, g3, fun q b z => ?_, fun q => ?_, fun {H' F' B'} t fr c r' dj => ⟨?_, fun ns => ?_⟩⟩
    · rcases z with z | ⟨i, hi, z⟩
      · exact g4 q b z
      · exact hi (k1.fam.apart i j q z ((g5 q).mpr (.inl b)))
    · rw [k2 q]
      constructor
      · rintro ⟨i, z⟩
        by_cases hi : i = j
        · subst hi
          rcases (g5 q).mp z with z | z
          · exact .inl z
          · exact .inr (.inl z)
        · exact .inr (.inr ⟨i, hi, z⟩)
      · rintro (z | z | ⟨i, hi, z⟩)
        · exact ⟨j, (g5 q).mpr (.inl z)⟩
        · exact ⟨j, (g5 q).mpr (.inr z)⟩
        · exact ⟨i, z⟩
    · have inner := (g6 (H' := H') (F' := F') (B' := B') t fr (fun q z => c q (.inl z)) r' fun q z z' => dj q z (.inl z')).1
      have RI' := RI.set k1 (j := j) (y := r) (u := u) (B := fun q => B' q ∨ C q) (by rw [e2]; simp) e5 inner (fun i q hi z z' => ?_) (fun i x0 v0 hi ex ev r0 => ?_)
      · simp only [RO]
        refine ⟨p, vs, h1, t _ _ h2, ROs.iff (fun q => ?_) RI'.to⟩
        constructor
        · rintro (z | z | ⟨i, hi, z⟩)
          · exact ⟨j, by rw [setF_same]; exact .inl z⟩
          · exact ⟨j, by rw [setF_same]; exact .inr z⟩
          · exact ⟨i, by rw [setF_ne hi]; exact z⟩
        · rintro ⟨i, z⟩
          by_cases hi : i = j
          · subst hi
            rw [setF_same] at z
            rcases z with z | z
            · exact .inl z
            · exact .inr (.inl z)
          · rw [setF_ne hi] at z
            exact .inr (.inr ⟨i, hi, z⟩)
      · rcases z' with z' | z'
        · exact dj q z' (.inr ⟨i, hi, z⟩)
        · exact hi (k1.fam.apart i j q z ((g5 q).mpr (.inr z')))
      · exact RO.cong t fr (fun q z => c q (.inr ⟨i, hi, z⟩)) (nvs_iff.mp n x0 (List.mem_of_getElem? ex)) r0
    · simp only [OV.nv]
      have inner := (g6 (H' := H') (F' := F') (B' := B') t fr (fun q z => c q (.inl z)) r' fun q z z' => dj q z (.inl z')).2 ns
      exact set_nv n inner
  | k :: ks, .hole, x', v, A, n, h, e => by simp [OV.mod] at e
  | k :: ks, .fr _, x', v, A, n, h, e => by simp [OV.mod] at e
  | k :: ks, .vw _, x', v, A, n, h, e => by simp [OV.mod] at e

section
variable {X : Cx} {W : WX} {R B : Fp} {H H' : Hp} {P P' : Nat → Fp} {σ : Sl} {env env' : List OV}
/-- what is known stays known while the heap grows -/
theorem At.grow (a : At X.K R H P σ env) (s : Same H H') : At X.K R H' P σ env :=
  ⟨a.er.mono s (msk_step s fun q z => .inl z), fun q z => let ⟨vs, e⟩ := a.rd q z; ⟨vs, s _ _ e⟩, a.dj⟩
/-- an index -/
def fIdx (f : EF) (env : List OV) : Option Int := match f env with
  | some (.ok y _) => (match y.d with
    | some (.int k) => some k
    | _ => none)
  | _ => none
theorem SE.idx {b : Expr} {fb : EF} {tb : TE} (qb : ∀ R H P σ env, At X.K R H P σ env → ∀ Q : VK, EPost X W R H P σ (fb env) Q → tb σ H Q) (a : At X.K R H P σ env) {k : Int} (e : fIdx fb env = some k) {Q : VK} (h : ∀ H', Same H H' → Q (.int k) H') : tb σ H Q := by
  refine qb R H P σ env a _ ?_
  unfold fIdx at e
  cases ef : fb env with
  | none => rw [ef] at e; cases e
  | some s =>
    cases s with
    | exc c => rw [ef] at e; cases e
    | ok y e2 =>
      rw [ef] at e
      cases ey : y.d with
      | none => simp only [ey, reduceCtorEq] at e
      | some d =>
        cases d <;> simp only [ey, reduceCtorEq, Option.some.injEq] at e
        subst e
        intro v H' P' B g r
        have := r.rd msk_same ey
        simp only [RD] at this
        subst this
        exact h H' g.same
/-- the place i and indices: an expression that reads it -/
def SPth (X : Cx) (i : Nat) (e : Expr) (g : List OV → Option (List Int)) : Prop := ∃ t : TE, PE X e t ∧ ∀ R H P σ env, At X.K R H P σ env → ∀ ks v w, g env = some ks → σ[i]? = some (some v) → HPath H v ks w →
  ∀ Q : VK, (∀ H', Same H H' → Q w H') → t σ H Q
theorem SPth.name {i : Nat} {x : Str} {pos : Pos} (h : PE X (.Name x pos) (tVar i)) : SPth X i (.Name x pos) (fun _ => some []) := by
  refine ⟨_, h, fun R H P σ env a ks v w e hv hp Q q => ?_⟩
  cases e
  have hp : v = w := hp
  subst hp
  exact ⟨v, hv, q H (Same.refl _)⟩
def gIx (g : List OV → Option (List Int)) (fb : EF) : List OV → Option (List Int) := fun env => (g env).bind fun ks => (fIdx fb env).map fun k => ks ++ [k]
theorem SPth.ix {i : Nat} {a b : Expr} {g : List OV → Option (List Int)} {fb : EF} {pos : Pos} (hb : plainE b = true) (sa : SPth X i a g) (sb : SE X W b fb) : SPth X i (.Subscript a b pos) (gIx g fb) := by
  obtain ⟨ta, pa, qa⟩ := sa
  obtain ⟨tb, pb, qb⟩ := sb
  refine ⟨_, pe_ix (ix_list.or ix_tup) pa pb (plainIx_of hb), fun R H P σ env a ks v w e hv hp Q q => ?_⟩
  simp only [gIx, Option.bind_eq_some_iff, Option.map_eq_some_iff] at e
  obtain ⟨ks', e1, k, e2, e3⟩ := e
  subst e3
  obtain ⟨u, q1, q2⟩ := hp.snoc
  refine qa R H P σ env a ks' v u e1 hv q1 _ fun H1 s1 => ?_
  refine SE.idx (b := b) qb (a.grow s1) e2 fun H2 s2 => ?_
  obtain ⟨p, vs, u', h1, h2, h3, h4⟩ := q2
  have h4 : u' = w := h4
  subst h4
  rcases h2 with h2 | h2
  · exact .inl ⟨p, vs, k, u', h1, rfl, .of (s2 _ _ (s1 _ _ h2)), h3, q H2 (s1.trans s2)⟩
  · exact .inr ⟨p, vs, k, u', h1, rfl, .of (s2 _ _ (s1 _ _ h2)), h3, q H2 (s1.trans s2)⟩

/-! ### moved out of a place, frozen at a place -/
def fMv (i : Nat) (g : List OV → Option (List Int)) : EF := fun env => (g env).bind fun ks => (env[i]?).bind fun x => (x.get ks).bind fun s => match s with
  | .hole => none
  | s => (x.mod ks fun _ => some .hole).map fun x' => .ok s (env.set i x')
def fFz (i : Nat) (g : List OV → Option (List Int)) : EF := fun env => (g env).bind fun ks => (env[i]?).bind fun x => match ks, x with
  | [], .fr d => some (.ok (.fr d) env)
  | _, _ => (x.get ks).bind fun s => s.d.bind fun d => (x.mod ks fun _ => some (.fr d)).map fun x' => .ok (.fr d) (env.set i x')
theorem env_lt {i : Nat} {x : OV} (e : env[i]? = some x) : i < env.length := (List.getElem?_eq_some_iff.mp e).1
mutual
/-- frozen: its lists no longer own -/
theorem RO.frz {K : PySem.W.Frag} {H F F' : Hp} (t : ∀ q vs, H q = some (.tup vs) → F' q = some (.tup vs)) (f : Same F F') : ∀ {x : OV} {v : V} {A : Fp} {d : D}, (∀ q, A q → F' q = H q) → x.nv = true → RO K H F x v A → x.d = some d → RD K F' d v
  | .hole, v, A, d, c, n, h, e => by simp [OV.d] at e
  | .fr d', v, A, d, c, n, h, e => by simp only [OV.d, Option.some.injEq] at e; subst e; simp only [RO] at h; exact RD.mono f _ _ h.1
  | .vw d', v, A, d, c, n, h, e => by simp [OV.nv] at n
  | .ol xs, v, A, d, c, n, h, e => by
    simp only [OV.d, Option.map_eq_some_iff] at e
    obtain ⟨ds, e1, e2⟩ := e
    subst e2
    simp only [OV.nv] at n
    simp only [RO] at h
    obtain ⟨p, vs, B, h1, h2, h3, h4, h5⟩ := h
    simp only [RD]
    exact ⟨p, vs, h1, by rw [c p ((h5 p).mpr (.inl rfl))]; exact h2, ROs.frz t f (fun q z => c q ((h5 q).mpr (.inr z))) n h3 e1⟩
  | .ot xs, v, A, d, c, n, h, e => by
    simp only [OV.d, Option.map_eq_some_iff] at e
    obtain ⟨ds, e1, e2⟩ := e
    subst e2
    simp only [OV.nv] at n
    simp only [RO] at h
    obtain ⟨p, vs, h1, h2, h3⟩ := h
    simp only [RD]
    exact ⟨p, vs, h1, t _ _ h2, ROs.frz t f c n h3 e1⟩
theorem ROs.frz {K : PySem.W.Frag} {H F F' : Hp} (t : ∀ q vs, H q = some (.tup vs) → F' q = some (.tup vs)) (f : Same F F') : ∀ {xs : List OV} {vs : List V} {A : Fp} {ds : List D}, (∀ q, A q → F' q = H q) → OV.nvs xs = true → ROs K H F xs vs A → OV.ds xs = some ds → RDs K F' ds vs
  | [], vs, A, ds, c, n, h, e => by simp only [OV.ds, Option.some.injEq] at e; subst e; simp only [ROs] at h; simp only [RDs]; exact h.1
  | x :: xs, vs, A, ds, c, n, h, e => by
    simp only [OV.nvs, Bool.and_eq_true] at n
    simp only [OV.ds] at e
    simp only [ROs] at h
    obtain ⟨v, r, B, C, h1, h2, h3, h4, h5⟩ := h
    cases ex : x.d with
    | none => simp [ex] at e
    | some d =>
      cases es : OV.ds xs with
      | none => simp [ex, es] at e
      | some ds' =>
        simp only [ex, es, Option.some.injEq] at e
        subst e
        simp only [RDs]
        exact ⟨v, r, h1, RO.frz t f (fun q z => c q ((h5 q).mpr (.inl z))) n.1 h2 ex, ROs.frz t f (fun q z => c q ((h5 q).mpr (.inr z))) n.2 h3 es⟩
end
theorem un_set {P : Nat → Fp} {i : Nat} {C : Fp} {q : Addr} (h : Fam.un (setF P i C) q) : C q ∨ ∃ j, j ≠ i ∧ P j q := by
  obtain ⟨j, h⟩ := h
  by_cases e : j = i
  · subst e; rw [setF_same] at h; exact .inl h
  · rw [setF_ne e] at h; exact .inr ⟨j, e, h⟩
theorem HPath.eq {H : Hp} : ∀ {ks : List Int} {v w w' : V}, HPath H v ks w → HPath H v ks w' → w = w'
  | [], v, w, w', h, h' => h.symm.trans h'
  | k :: ks, v, w, w', ⟨p, vs, u, h1, h2, h3, h4⟩, ⟨p', vs', u', k1, k2, k3, k4⟩ => by
    rw [h1] at k1
    cases k1
    have : vs = vs' := by
      rcases h2 with h2 | h2 <;> rcases k2 with k2 | k2 <;> rw [h2] at k2 <;> cases k2 <;> rfl
    subst this
    rw [h3] at k3
    cases k3
    exact HPath.eq h4 k4
theorem SE.mv {i : Nat} {e : Expr} {g : List OV → Option (List Int)} (s : SPth X i e g) : SE X W e (fMv i g) := by
  obtain ⟨t, p, q⟩ := s
  refine ⟨t, p, fun R H P σ env a Q hp => ?_⟩
  unfold fMv at hp
  cases eg : g env with
  | none => rw [eg] at hp; exact hp.elim
  | some ks =>
    cases ex : env[i]? with
    | none => rw [eg, Option.bind_some, ex] at hp; exact hp.elim
    | some x =>
      cases es : x.get ks with
      | none => rw [eg, Option.bind_some, ex, Option.bind_some, es] at hp; exact hp.elim
      | some sx =>
        rw [eg, Option.bind_some, ex, Option.bind_some, es, Option.bind_some] at hp
        by_cases hh : sx = .hole
        · subst hh; exact hp.elim
        have hp2 : EPost X W R H P σ ((x.mod ks fun _ => some .hole).map fun x' => .ok sx (env.set i x')) Q := by
          cases sx with
          | hole => exact absurd rfl hh
          | _ => exact hp
        cases em : x.mod ks fun _ => some .hole with
        | none => rw [em] at hp2; exact hp2.elim
        | some x' =>
          rw [em, Option.map_some] at hp2
          obtain ⟨nx, o, e1, e2⟩ := a.er.at_ i x ex
          have hx : x ≠ .hole := by
            rintro rfl
            cases ks with
            | nil => simp only [OV.get, Option.some.injEq] at es; exact hh es.symm
            | cons k ks => simp [OV.get] at es
          obtain ⟨v, rfl, r⟩ := e2.ro hx
          obtain ⟨s0, s', w, B, C, g0, gn, g1, g2, g3, g4, g5, g6⟩ := mod_ok nx r em
          rw [es] at g0
          cases g0
          cases g1
          have back := g6 (H' := H) (F' := msk H (own P R)) (B' := Fp.emp) (fun q vs e => e) (Same.refl _) (fun q z => rfl) (fun _ z => z) (fun q z => z.elim)
          refine q R H P σ env a ks v w eg e1 g2 Q fun H1 s1 => ?_
          have bC : ∀ q, C q → P i q := fun q z => (g5 q).mpr (.inr z)
          have bB : ∀ q, B q → P i q := fun q z => (g5 q).mpr (.inl z)
          have lt := env_lt ex
          have er1 : ER X.K H (msk H (own P R)) (env.set i x') σ (setF P i C) :=
            a.er.put lt (back.2 rfl) e1 (.inr ⟨v, rfl, back.1.iff fun q => by simp [Fp.emp]⟩) fun j q hj z z' => hj (a.er.fam.apart j i q z (bC q z'))
          have out : ∀ q, own (setF P i C) (fun q => B q ∨ R q) q → own P R q := fun q z => by
            rcases z with z | z | z
            · rcases un_set z with z | ⟨j, hj, z⟩
              · exact .inl ⟨i, bC q z⟩
              · exact .inl ⟨j, z⟩
            · exact .inl ⟨i, bB q z⟩
            · exact .inr z
          refine hp2 w H1 (setF P i C) B ⟨s1, er1.mono s1 ?_, fun q z b => ?_, fun q z => ?_, fun q z => ?_⟩ (g3.mono s1 ?_)
          · exact (msk_step s1 fun q z => .inl z).trans (msk_sub out)
          · rcases un_set z with z | ⟨j, hj, z⟩
            · exact g4 q b z
            · exact hj (a.er.fam.apart j i q z (bB q b))
          · rcases z with z | z
            · rcases un_set z with z | ⟨j, hj, z⟩
              · exact .inl ⟨i, bC q z⟩
              · exact .inl ⟨j, z⟩
            · exact .inl ⟨i, bB q z⟩
          · obtain ⟨vs, e⟩ := RO.dom g3 q z
            exact ⟨vs, s1 _ _ e⟩
          · exact (msk_step s1 fun q z => .inl z).trans (msk_sub out)
theorem SE.fz {i : Nat} {e : Expr} {g : List OV → Option (List Int)} (s : SPth X i e g) : SE X W e (fFz i g) := by
  obtain ⟨t, p, q⟩ := s
  refine ⟨t, p, fun R H P σ env a Q hp => ?_⟩
  unfold fFz at hp
  cases eg : g env with
  | none => rw [eg] at hp; exact hp.elim
  | some ks =>
    cases ex : env[i]? with
    | none => rw [eg, Option.bind_some, ex] at hp; exact hp.elim
    | some x =>
      rw [eg, Option.bind_some, ex, Option.bind_some] at hp
      obtain ⟨nx, o, e1, e2⟩ := a.er.at_ i x ex
      by_cases hf : ks = [] ∧ ∃ d, x = .fr d
      · obtain ⟨rfl, d, rfl⟩ := hf
        obtain ⟨v, rfl, r⟩ := e2.ro (by simp)
        refine q R H P σ env a [] v v eg e1 rfl Q fun H1 s1 => ?_
        simp only [RO] at r
        refine hp v H1 P Fp.emp ⟨s1, (a.grow s1).er.mono (Same.refl _) (msk_sub fun q z => (own_emp q).mp z), fun q z b => b, fun q z => .inl (z.elim id fun z => z.elim), fun q z => z.elim⟩ ⟨?_, fun _ z => z⟩
        exact RD.mono ((msk_step s1 fun q z => .inl z).trans (msk_sub fun q z => (own_emp q).mp z)) _ _ r.1
      · have hp1 : EPost X W R H P σ ((x.get ks).bind fun s => s.d.bind fun d => (x.mod ks fun _ => some (.fr d)).map fun x' => .ok (.fr d) (env.set i x')) Q := by
          cases ks with
          | nil =>
            cases x with
            | fr d => exact absurd ⟨rfl, d, rfl⟩ hf
            | _ => exact hp
          | cons k ks => exact hp
        cases es : x.get ks with
        | none => rw [es] at hp1; exact hp1.elim
        | some sx =>
          cases ed : sx.d with
          | none => rw [es, Option.bind_some, ed] at hp1; exact hp1.elim
          | some d =>
            rw [es, Option.bind_some, ed, Option.bind_some] at hp1
            cases em : x.mod ks fun _ => some (.fr d) with
            | none => rw [em] at hp1; exact hp1.elim
            | some x' =>
              rw [em, Option.map_some] at hp1
              have hx : x ≠ .hole := by
                rintro rfl
                cases ks with
                | nil => simp only [OV.get, Option.some.injEq] at es; subst es; simp [OV.d] at ed
                | cons k ks => simp [OV.get] at es
              obtain ⟨v, rfl, r⟩ := e2.ro hx
              obtain ⟨s0, s', w, B, C, g0, gn, g1, g2, g3, g4, g5, g6⟩ := mod_ok nx r em
              rw [es] at g0
              cases g0
              cases g1
              have bC : ∀ q, C q → P i q := fun q z => (g5 q).mpr (.inr z)
              have bB : ∀ q, B q → P i q := fun q z => (g5 q).mpr (.inl z)
              have lt := env_lt ex
              have out : ∀ q, own (setF P i C) R q → own P R q := fun q z => by
                rcases z with z | z
                · rcases un_set z with z | ⟨j, hj, z⟩
                  · exact .inl ⟨i, bC q z⟩
                  · exact .inl ⟨j, z⟩
                · exact .inr z
              have nout : ∀ q, B q → ¬ own (setF P i C) R q := fun q b z => by
                rcases z with z | z
                · rcases un_set z with z | ⟨j, hj, z⟩
                  · exact g4 q b z
                  · exact hj (a.er.fam.apart j i q z (bB q b))
                · exact a.dj q ⟨i, bB q b⟩ z
              have ff : Same (msk H (own P R)) (msk H (own (setF P i C) R)) := msk_sub out
              have frd : RD X.K (msk H (own (setF P i C) R)) d w := by
                refine RO.frz (fun q vs e => msk_some.mpr ⟨fun z => ?_, e⟩) ff (fun q b => ?_) gn g3 ed
                · obtain ⟨ws, e'⟩ := a.out q (out q z)
                  rw [e] at e'; cases e'
                · obtain ⟨ws, e'⟩ := RO.dom g3 q b
                  rw [e']
                  exact msk_some.mpr ⟨nout q b, e'⟩
              have back := g6 (H' := H) (F' := msk H (own (setF P i C) R)) (B' := Fp.emp) (fun q vs e => e) ff (fun q z => rfl) ⟨frd, fun _ z => z⟩ (fun q z => z.elim)
              refine q R H P σ env a ks v w eg e1 g2 Q fun H1 s1 => ?_
              have er1 : ER X.K H (msk H (own (setF P i C) R)) (env.set i x') σ (setF P i C) :=
                (a.er.mono (Same.refl _) ff).put lt (back.2 rfl) e1 (.inr ⟨v, rfl, back.1.iff fun q => by simp [Fp.emp]⟩) fun j q hj z z' => hj (a.er.fam.apart j i q z (bC q z'))
              have m1 : Same (msk H (own (setF P i C) R)) (msk H1 (own (setF P i C) fun q => Fp.emp q ∨ R q)) := (msk_step s1 fun q z => .inl z).trans (msk_sub fun q z => (own_emp q).mp z)
              refine hp1 w H1 (setF P i C) Fp.emp ⟨s1, er1.mono s1 m1, fun q z b => b, fun q z => ?_, fun q z => z.elim⟩ ⟨RD.mono m1 _ _ frd, fun _ z => z⟩
              rcases z with z | z
              · rcases un_set z with z | ⟨j, hj, z⟩
                · exact .inl ⟨i, bC q z⟩
                · exact .inl ⟨j, z⟩
              · exact z.elim
end
end PL

/-! PL9: values settled as data, functions' promises and calls, slices -/
namespace PL
open PySem PySem.Spec PyProof.Rows L2

section
variable {X : Cx} {W : WX} {R B : Fp} {H H' H2 : Hp} {P P' : Nat → Fp} {σ : Sl} {env env' : List OV}
theorem Go.grow (a : At X.K R H P σ env) (g : Go X.K R H P σ H' P' env' B) (s : Same H' H2) : Go X.K R H P σ H2 P' env' B :=
  ⟨g.same.trans s, g.er.mono s (msk_step s fun q z => .inl z), g.dj, g.fp, fun q b => let ⟨vs, e⟩ := g.bd q b; ⟨vs, s _ _ e⟩⟩
/-- the value's lists frozen -/
theorem Go.frzv (a : At X.K R H P σ env) (g : Go X.K R H P σ H' P' env' B) {x : OV} {v : V} {d : D} (n : x.nv = true) (r : RO X.K H' (msk H' (own P' fun q => B q ∨ R q)) x v B) (e : x.d = some d) : RD X.K (msk H' (own P' R)) d v := by
  refine RO.frz (fun q vs h => msk_some.mpr ⟨fun z => ?_, h⟩) (msk_sub fun q z => z.elim .inl fun z => .inr (.inr z)) (fun q b => ?_) n r e
  · obtain ⟨ws, k⟩ := g.out a q (z.elim .inl fun z => .inr (.inr z))
    rw [k] at h; cases h
  · obtain ⟨ws, k⟩ := g.bd q b
    rw [k]
    exact msk_some.mpr ⟨fun z => z.elim (fun z => g.dj q z b) fun z => g.bR a q b z, k⟩
theorem Go.frzs (a : At X.K R H P σ env) (g : Go X.K R H P σ H' P' env' B) {xs : List OV} {vs : List V} {ds : List D} (n : OV.nvs xs = true) (r : ROs X.K H' (msk H' (own P' fun q => B q ∨ R q)) xs vs B) (e : OV.ds xs = some ds) : RDs X.K (msk H' (own P' R)) ds vs := by
  refine ROs.frz (fun q vs h => msk_some.mpr ⟨fun z => ?_, h⟩) (msk_sub fun q z => z.elim .inl fun z => .inr (.inr z)) (fun q b => ?_) n r e
  · obtain ⟨ws, k⟩ := g.out a q (z.elim .inl fun z => .inr (.inr z))
    rw [k] at h; cases h
  · obtain ⟨ws, k⟩ := g.bd q b
    rw [k]
    exact msk_some.mpr ⟨fun z => z.elim (fun z => g.dj q z b) fun z => g.bR a q b z, k⟩
/-- told as data: nothing of it is owned any more -/
def OV.stl (x : OV) : Option OV := match x with
  | .hole => none
  | .fr d => some (.fr d)
  | x => x.d.map fun d => if x.nv then .fr d else vwl d
theorem OV.stl_fr {d : D} : OV.stl (.fr d) = some (.fr d) := rfl
def fSt (f : EF) : EF := fun env => bnd (f env) fun x e => x.stl.map fun y => .ok y e
theorem own_emp' {P : Nat → Fp} {R : Fp} : ∀ q, own P (fun q => Fp.emp q ∨ R q) q → own P R q := fun q z => (own_emp q).mp z
theorem Go.stl (a : At X.K R H P σ env) (g : Go X.K R H P σ H' P' env' B) {x y : OV} {v : V} (r : RO X.K H' (msk H' (own P' fun q => B q ∨ R q)) x v B) (e : x.stl = some y) :
    Go X.K R H P σ H' P' env' Fp.emp ∧ RO X.K H' (msk H' (own P' fun q => Fp.emp q ∨ R q)) y v Fp.emp := by
  refine ⟨g.weak fun q z => z.elim, ?_⟩
  have key : ∀ {d : D}, x.d = some d → (if x.nv = true then OV.fr d else vwl d) = y → RO X.K H' (msk H' (own P' fun q => Fp.emp q ∨ R q)) y v Fp.emp := fun {d} e1 e2 => by
    subst e2
    split
    · rename_i n
      exact ⟨RD.mono (msk_sub own_emp') _ _ (g.frzv a n r e1), fun _ z => z⟩
    · exact (ro_vwl (g.out a) (r.rd msk_same e1)).sub fun q z => z.elim .inl fun z => .inr (z.elim (fun z => z.elim) .inr)
  cases x with
  | hole => simp [OV.stl] at e
  | fr d => simp only [OV.stl, Option.some.injEq] at e; exact key rfl e
  | vw d => simp only [OV.stl, Option.map_eq_some_iff] at e; obtain ⟨d', e1, e2⟩ := e; exact key e1 e2
  | ol xs => simp only [OV.stl, Option.map_eq_some_iff] at e; obtain ⟨d', e1, e2⟩ := e; exact key e1 e2
  | ot xs => simp only [OV.stl, Option.map_eq_some_iff] at e; obtain ⟨d', e1, e2⟩ := e; exact key e1 e2
theorem SE.st {e : Expr} {f : EF} (s : SE X W e f) : SE X W e (fSt f) := by
  obtain ⟨t, p, q⟩ := s
  refine ⟨t, p, fun R H P σ env a Q hp => q R H P σ env a Q ?_⟩
  unfold fSt at hp
  cases ef : f env with
  | none => rw [ef] at hp; exact hp
  | some s =>
    cases s with
    | exc c => rw [ef] at hp; exact hp
    | ok x e1 =>
      rw [ef, bnd_ok] at hp
      cases es : x.stl with
      | none => rw [es] at hp; exact hp.elim
      | some y =>
        rw [es] at hp
        intro v H1 P1 B1 g1 r1
        obtain ⟨g2, r2⟩ := g1.stl a r1 es
        exact hp v H1 P1 Fp.emp g2 r2
end

/-! ### what a function does -/
inductive Re where
  | ret (x : OV) | exc (c : Str)
abbrev FF := List OV → Option Re
def RePost (K : PySem.W.Frag) (mg : Str → Option Value) (H : Hp) (A R : Fp) (r : Option Re) (Q : VK) (E : XK) : Prop := match r with
  | some (.ret y) => ∀ v H' B, y.nv = true → Same (msk H A) (msk H' B) → RO K H' (msk H' fun q => B q ∨ R q) y v B → Q v H'
  | some (.exc c) => ∀ H' C, Same (msk H A) H' → mg c = some (.ref C) → E (.ref C) none H'
  | none => False
/-- the promise: xs stand in the heap, the lists A are theirs; the lists R belong to others -/
def spOf (K : PySem.W.Frag) (mg : Str → Option Value) (n : Nat) (φ : FF) : Sp := fun vs H Q E => vs.length = n ∧ ∃ (xs : List OV) (A R : Fp), OV.nvs xs = true ∧ (∀ q, A q → ¬ R q) ∧ (∀ q, R q → ∃ ws, H q = some (.lst ws)) ∧
  ROs K H (msk H fun q => A q ∨ R q) xs vs A ∧ RePost K mg H A R (φ xs) Q E
/-- a def that may be called by its name -/
structure Fn (X : Cx) (k : Nat) (x : Str) (n : Nat) (φ : FF) : Prop where
  gl : Gl X x
  db : (x == ("__debug__" : Str)) = false
  room : Room k X.A
  at_ : ∃ f fd ps, X.mg x = some (.ref f) ∧ PySem.W.keepIn X.K (.ref f) = true ∧ Binds X.K fd ps [] ∧ FnOk X.prog X.w X.K X.mg X.base (L2.CX X.prog X.w) k f fd ps (spOf X.K X.mg n φ)
def fCall (φ : FF) (fa : AF) : EF := fun env => bndA (fa env) fun xs e => match OV.ds xs with
  | some ds => (match φ (ds.map .fr) with
    | some (.ret y) => if OV.nvs xs then some (.ok y e) else y.d.map fun d => .ok (vwl d) e
    | some (.exc c) => some (.exc c)
    | none => none)
  | none => none
section
variable {X : Cx} {W : WX} {R B : Fp} {H H' H2 : Hp} {P P' : Nat → Fp} {σ : Sl} {env env' : List OV}
theorem nvs_fr : ∀ {ds : List D}, OV.nvs (ds.map .fr) = true
  | [] => rfl
  | d :: ds => by simp [OV.nvs, OV.nv, nvs_fr (ds := ds)]
theorem pe_fn {k n : Nat} {x : Str} {φ : FF} {p pos : Pos} {e : Expr} {es : List Expr} {t : TA} (F : Fn X k x n φ) (tk : Takes X W) (he : (e :: es).all plainE = true) (pa : PA X (e :: es) t) :
    PE X (.Call (.Name x p) (e :: es) [] pos) (tCallS (spOf X.K X.mg n φ) (WE W) t) := by
  simp only [List.all_cons, Bool.and_eq_true] at he
  obtain ⟨f, fd, ps, hm, hk, hb, ok⟩ := F.at_
  exact pe_callS ok F.room F.gl hm hk hb (passAt tk) pa F.db (starEach_plain he.1) (starAny he.2)
theorem SE.call {k n : Nat} {x : Str} {φ : FF} {p pos : Pos} {e : Expr} {es : List Expr} {fa : AF} (F : Fn X k x n φ) (tk : Takes X W) (hl : (e :: es).length = n) (he : (e :: es).all plainE = true) (sa : SA X W (e :: es) fa)
    (len : ∀ env xs e1, fa env = some (.ok xs e1) → xs.length = n) : SE X W (.Call (.Name x p) (e :: es) [] pos) (fCall φ fa) := by
  obtain ⟨ta, pa, qa⟩ := sa
  refine ⟨_, pe_fn F tk he pa, fun R H P σ env a Q hp => qa R H P σ env a _ ?_⟩
  unfold fCall at hp
  cases ea : fa env with
  | none => rw [ea] at hp; exact hp
  | some s =>
    cases s with
    | exc c => rw [ea] at hp; exact hp
    | ok xs e1 =>
      rw [ea, bndA_ok] at hp
      intro vs H1 P1 B1 g1 r1
      cases ed : OV.ds xs with
      | none => rw [ed] at hp; exact hp.elim
      | some ds =>
        simp only [ed] at hp
        have hlen : vs.length = n := by rw [← r1.length]; exact len _ _ _ ea
        cases ef : φ (ds.map .fr) with
        | none => rw [ef] at hp; exact hp.elim
        | some re =>
          simp only [ef] at hp
          cases re with
          | exc c =>
            refine ⟨hlen, ds.map .fr, Fp.emp, Fp.emp, nvs_fr, fun _ z => z.elim, fun _ z => z.elim, ros_fr (RDs.mono (fun p o h => msk_some.mpr ⟨fun z => z.elim id id, h⟩) _ _ (r1.rd msk_same ed)), ?_⟩
            rw [ef]
            exact fun H' C s hC => hp H' C (g1.same.trans fun p o h => s p o (msk_some.mpr ⟨fun z => z, h⟩)) hC
          | ret y =>
            by_cases nx : OV.nvs xs = true
            · simp only [nx, if_true] at hp
              have rd := g1.frzs a nx r1 ed
              refine ⟨hlen, ds.map .fr, Fp.emp, own P1 R, nvs_fr, fun _ z => z.elim, fun q z => g1.out a q (z.elim .inl fun z => .inr (.inr z)), ros_fr (RDs.mono (msk_sub fun q z => z.elim (fun z => z.elim) id) _ _ rd), ?_⟩
              rw [ef]
              refine fun v H' B ny s r => ?_
              have s1 : Same H1 H' := fun p o h => msk_same p o (s p o (msk_some.mpr ⟨fun z => z, h⟩))
              have nB : ∀ q, B q → H1 q = none := fun q b => by
                cases h : H1 q with
                | none => rfl
                | some o => exact absurd b (msk_some.mp (s q o (msk_some.mpr ⟨fun z => z, h⟩))).1
              refine hp v H' P1 B ⟨g1.same.trans s1, g1.er.mono s1 (msk_step s1 fun q z => ?_), fun q z b => ?_, fun q z => ?_, fun q b => RO.dom r q b⟩ (r.sub fun q z => ?_)
              · rcases z with z | z | z
                · exact .inl (.inl z)
                · exact .inr (nB q z)
                · exact .inl (.inr (.inr z))
              · obtain ⟨ws, h⟩ := g1.er.dom q z
                rw [nB q b] at h; cases h
              · rcases z with z | z
                · exact g1.fp q (.inl z)
                · exact .inr (g1.same.free (nB q z))
              · rcases z with z | z | z
                · exact .inr (.inl z)
                · exact .inl z
                · exact .inr (.inr z)
            · simp only [nx] at hp
              refine ⟨hlen, ds.map .fr, Fp.emp, Fp.emp, nvs_fr, fun _ z => z.elim, fun _ z => z.elim, ros_fr (RDs.mono (fun p o h => msk_some.mpr ⟨fun z => z.elim id id, h⟩) _ _ (r1.rd msk_same ed)), ?_⟩
              rw [ef]
              refine fun v H' B ny s r => ?_
              have s1 : Same H1 H' := fun p o h => msk_same p o (s p o (msk_some.mpr ⟨fun z => z, h⟩))
              cases ey : y.d with
              | none => simp only [ey] at hp; exact hp.elim
              | some d =>
                simp only [ey, Option.map_some] at hp
                have g2 := (g1.grow a s1).weak (B2 := Fp.emp) fun q z => z.elim
                exact hp v H' P1 Fp.emp g2 ((ro_vwl (g2.out a) (r.rd msk_same ey)))
/-! ### slices -/
def cut {α : Type} (xs : List α) (lo hi : Option Int) : List α := (xs.drop (HT.sIx xs.length 0 lo)).take (HT.sIx xs.length xs.length hi - HT.sIx xs.length 0 lo)
theorem ROs.take {K : PySem.W.Frag} {H F : Hp} : ∀ {xs : List OV} {vs : List V} {A : Fp} (n : Nat), ROs K H F xs vs A → ∃ B, (∀ q, B q → A q) ∧ ROs K H F (xs.take n) (vs.take n) B
  | xs, vs, A, 0, h => ⟨Fp.emp, fun q z => z.elim, by simp [ROs]⟩
  | [], vs, A, n + 1, h => by
    simp only [ROs] at h
    exact ⟨Fp.emp, fun q z => z.elim, by simp [ROs, h.1]⟩
  | x :: xs, vs, A, n + 1, h => by
    simp only [ROs] at h
    obtain ⟨v, r, B, C, h1, h2, h3, h4, h5⟩ := h
    subst h1
    obtain ⟨D, k1, k2⟩ := ROs.take n h3
    refine ⟨fun q => B q ∨ D q, fun q z => (h5 q).mpr (z.imp id (k1 q)), ?_⟩
    simp only [List.take_succ_cons, ROs]
    exact ⟨v, _, B, D, rfl, h2, k2, fun q b d => h4 q b (k1 q d), fun q => Iff.rfl⟩
theorem ROs.drop {K : PySem.W.Frag} {H F : Hp} : ∀ {xs : List OV} {vs : List V} {A : Fp} (n : Nat), ROs K H F xs vs A → ∃ B, (∀ q, B q → A q) ∧ ROs K H F (xs.drop n) (vs.drop n) B
  | xs, vs, A, 0, h => ⟨A, fun q z => z, h⟩
  | [], vs, A, n + 1, h => by
    simp only [ROs] at h
    exact ⟨Fp.emp, fun q z => z.elim, by simp [ROs, h.1]⟩
  | x :: xs, vs, A, n + 1, h => by
    simp only [ROs] at h
    obtain ⟨v, r, B, C, h1, h2, h3, h4, h5⟩ := h
    subst h1
    obtain ⟨D, k1, k2⟩ := ROs.drop n h3
    exact ⟨D, fun q z => (h5 q).mpr (.inr (k1 q z)), by simpa only [List.drop_succ_cons] using k2⟩
/-- the items of a list that is settled -/
def OV.lsi : OV → Option (List OV)
  | .fr (.lst ds) => some (ds.map .fr)
  | .fr (.scr ns) => some (ns.map fun n => .fr (.int n))
  | .vw (.lst ds) => some (ds.map vwl)
  | _ => none
theorem RO.lsi {K : PySem.W.Frag} {H : Hp} {O A : Fp} (ho : ∀ q, O q → ∃ vs, H q = some (.lst vs)) {x : OV} {v : V} {xs : List OV} (h : RO K H (msk H O) x v A) (e : x.lsi = some xs) :
    ∃ p vs, v = .ref p ∧ SqL K H p vs ∧ ROs K H (msk H O) xs vs Fp.emp := by
  cases x with
  | hole => simp [OV.lsi] at e
  | ot ys => simp [OV.lsi] at e
  | ol ys => simp [OV.lsi] at e
  | fr d =>
    cases d <;> simp only [OV.lsi, Option.some.injEq, reduceCtorEq] at e
    · subst e
      simp only [RO, RD] at h
      obtain ⟨⟨p, vs, h1, h2, h3⟩, _⟩ := h
      exact ⟨p, vs, h1, .of (msk_same _ _ h2), ros_fr h3⟩
    · rename_i ns
      subst e
      simp only [RO, RD] at h
      obtain ⟨⟨p, h1, h2⟩, _⟩ := h
      refine ⟨p, _, h1, msk_same.seq h2, ?_⟩
      have := ros_fr (K := K) (H := H) (F := msk H O) (RDs.ints (K := K) (H := msk H O) (ns := ns))
      rw [List.map_map] at this
      exact this
  | vw d =>
    cases d <;> simp only [OV.lsi, Option.some.injEq, reduceCtorEq] at e
    subst e
    simp only [RO, RD] at h
    obtain ⟨⟨p, vs, h1, h2, h3⟩, _⟩ := h
    exact ⟨p, vs, h1, .of h2, ros_vwl ho h3⟩
def fPart (f : Option EF) (env : List OV) : Option (Option Int) := match f with
  | none => some none
  | some f => (fIdx f env).map some
def fSl (fa : EF) (fl fh : Option EF) : EF := fun env => bnd (fa env) fun x e => (fPart fl e).bind fun lo => (fPart fh e).bind fun hi => x.lsi.map fun xs => .ok (.ol (cut xs lo hi)) e
/-- a part of a slice -/
def SP' (X : Cx) (W : WX) : Option Expr → Option EF → Prop
  | none, none => True
  | some e, some f => SE X W e f
  | _, _ => False
theorem SP'.po {e : Option Expr} {f : Option EF} (s : SP' X W e f) : ∃ t : TO, PO X e t ∧ ∀ R H P σ env, At X.K R H P σ env → ∀ o, fPart f env = some o → ∀ Q : Option Int → Hp → Prop, (∀ H', Same H H' → Q o H') → t σ H Q := by
  cases e with
  | none =>
    cases f with
    | none => exact ⟨_, po_none, fun R H P σ env a o h Q q => by simp only [fPart, Option.some.injEq] at h; subst h; exact q H (Same.refl _)⟩
    | some f => exact s.elim
  | some e =>
    cases f with
    | none => exact s.elim
    | some f =>
      obtain ⟨t, p, q⟩ := s
      refine ⟨_, po_some p, fun R H P σ env a o h Q hq => ?_⟩
      simp only [fPart, Option.map_eq_some_iff] at h
      obtain ⟨k, h1, h2⟩ := h
      subst h2
      exact SE.idx (b := e) q a h1 fun H' s => ⟨k, rfl, hq H' s⟩
theorem SE.sl {a : Expr} {lo hi : Option Expr} {fa : EF} {fl fh : Option EF} {p2 pos : Pos} (sa : SE X W a fa) (sl : SP' X W lo fl) (sh : SP' X W hi fh) : SE X W (.Subscript a (.Slice lo hi none p2) pos) (fSl fa fl fh) := by
  obtain ⟨ta, pa, qa⟩ := sa
  obtain ⟨tl, pl, ql⟩ := sl.po
  obtain ⟨th, ph, qh⟩ := sh.po
  refine ⟨_, pe_slice sl_list pa pl ph, fun R H P σ env a Q hp => qa R H P σ env a _ ?_⟩
  unfold fSl at hp
  cases ea : fa env with
  | none => rw [ea] at hp; exact hp
  | some s =>
    cases s with
    | exc c => rw [ea] at hp; exact hp
    | ok x e1 =>
      rw [ea, bnd_ok] at hp
      intro v H1 P1 B1 g1 r1
      cases el : fPart fl e1 with
      | none => rw [el] at hp; exact hp.elim
      | some lo' =>
        cases eh : fPart fh e1 with
        | none => rw [el, Option.bind_some, eh] at hp; exact hp.elim
        | some hi' =>
          cases ex : x.lsi with
          | none => rw [el, Option.bind_some, eh, Option.bind_some, ex] at hp; exact hp.elim
          | some xs =>
            rw [el, Option.bind_some, eh, Option.bind_some, ex] at hp
            refine ql _ H1 P1 σ e1 (g1.at a) lo' el _ fun H2 s2 => ?_
            refine qh _ H2 P1 σ e1 ((g1.at a).grow s2) hi' eh _ fun H3 s3 => ?_
            have g3 := g1.grow a (s2.trans s3)
            have r3 := r1.mono (s2.trans s3) (msk_step (s2.trans s3) fun q z => .inl z)
            obtain ⟨p, vs, h1, h2, h3⟩ := RO.lsi (g3.out a) r3 ex
            refine ⟨p, vs, h1, h2, fun l hl => ?_⟩
            have hlen := h3.length
            obtain ⟨B2, k1, k2⟩ := ROs.drop (HT.sIx xs.length 0 lo') h3
            obtain ⟨B3, k3, k4⟩ := ROs.take (HT.sIx xs.length xs.length hi' - HT.sIx xs.length 0 lo') k2
            have k5 : ROs X.K H3 (msk H3 (own P1 fun q => B1 q ∨ R q)) (cut xs lo' hi') (cutV vs lo' hi') B3 := by
              unfold cut cutV
              rw [← hlen]
              exact k4
            exact post_lst' a g3 (fun q z => (k1 q (k3 q z)).elim) k5 hl hp
end
end PL

/-! PL10: what a loop walks, targets -/
namespace PL
open PySem PySem.Spec PyProof.Rows L2

/-! ### iterables -/
inductive OuD where
  | ok (ds : List D) (env : List OV) | exc (c : Str)
abbrev IF := List OV → Option OuD
/-- the iterator yields ds while the frozen heap F stands -/
structure Walk (K : PySem.W.Frag) (J : It) (F : Hp) (ds : List D) : Prop where
  go : ∀ (H : Hp) (O : Fp) i d, Same F (msk H O) → ds[i]? = some d → J.go i H ∧ ∀ x H', (∀ q, O q → H q ≠ none) → J.yld i H x H' → Same H H' ∧ RD K (msk H' O) d x
  stop : ∀ (H : Hp) (O : Fp), Same F (msk H O) → J.stop ds.length H
def IPost (X : Cx) (W : WX) (R : Fp) (H : Hp) (P : Nat → Fp) (σ : Sl) (r : Option OuD) (Q : It → Hp → Prop) : Prop := match r with
  | some (.ok ds env') => ∀ J H' P', Go X.K R H P σ H' P' env' Fp.emp → Walk X.K J (msk H' (own P' R)) ds → Q J H'
  | some (.exc c) => XPost X W H σ c
  | none => False
def SI (X : Cx) (W : WX) (tg e : Expr) (f : IF) : Prop := ∃ wi : TI, PI X tg e wi ∧ ∀ R H P σ env, At X.K R H P σ env → ∀ Q : It → Hp → Prop, IPost X W R H P σ (f env) Q → wi σ H Q
section
variable {X : Cx} {W : WX} {R B : Fp} {H H' H2 : Hp} {P P' : Nat → Fp} {σ : Sl} {env env' : List OV} {tg : Expr}
theorem pi_or {e : Expr} {w1 w2 : TI} (h1 : PI X tg e w1) (h2 : PI X tg e w2) : PI X tg e (fun σ H Q => w1 σ H Q ∨ w2 σ H Q) :=
  ⟨fun pins s σ H Q I h => h.elim (fun h => h1.run pins s σ H Q I h) fun h => h2.run pins s σ H Q I h⟩
theorem walk_list {K : PySem.W.Frag} {F : Hp} {a : Addr} {vs : List V} {ds : List D} (h1 : SqL K F a vs) (h2 : RDs K F ds vs) : Walk K (Itl K a) F ds := by
  have hl := h2.length
  refine ⟨fun H O i d s e => ?_, fun H O s => ⟨vs, msk_same.seq (s.seq h1), by omega⟩⟩
  obtain ⟨v, e1, e2⟩ := h2.get e
  have q := msk_same.seq (s.seq h1)
  refine ⟨⟨vs, v, q, e1⟩, fun x H' _ y => ?_⟩
  obtain ⟨rfl, y⟩ := y
  have := y vs q
  rw [e1] at this
  cases this
  exact ⟨Same.refl _, RD.mono s _ _ e2⟩
theorem sqt_mono {K : PySem.W.Frag} {p : Addr} {vs : List V} (s : Same H H') (h : SqT K H p vs) : SqT K H' p vs := by
  rcases h with (h | ⟨o, h⟩) | h
  · exact .inl (.inl (s _ _ h))
  · exact .inl (.inr ⟨o, s _ _ h⟩)
  · exact .inr h
theorem walk_tup {K : PySem.W.Frag} {F : Hp} {a : Addr} {vs : List V} {ds : List D} (h1 : SqT K F a vs) (h2 : RDs K F ds vs) : Walk K (Itt K a) F ds := by
  have hl := h2.length
  refine ⟨fun H O i d s e => ?_, fun H O s => ⟨vs, sqt_mono msk_same (sqt_mono s h1), by omega⟩⟩
  obtain ⟨v, e1, e2⟩ := h2.get e
  have q := sqt_mono msk_same (sqt_mono s h1)
  refine ⟨⟨vs, v, q, e1⟩, fun x H' _ y => ?_⟩
  obtain ⟨rfl, y⟩ := y
  have := y vs q
  rw [e1] at this
  cases this
  exact ⟨Same.refl _, RD.mono s _ _ e2⟩
def fItV (f : EF) : IF := fun env => match fSt f env with
  | some (.ok (.fr d) e) => d.itm.map fun ds => .ok ds e
  | some (.exc c) => some (.exc c)
  | _ => none
theorem SI.val {e : Expr} {f : EF} (s : SE X W e f) : SI X W tg e (fItV f) := by
  obtain ⟨t, p, q⟩ := s.st
  refine ⟨_, pi_or (pi_list p) (pi_tup p), fun R H P σ env a Q hp => ?_⟩
  unfold fItV at hp
  cases ef : fSt f env with
  | none => rw [ef] at hp; exact hp.elim
  | some s =>
    cases s with
    | exc c =>
      rw [ef] at hp
      exact .inl (q R H P σ env a _ (by rw [ef]; exact hp))
    | ok x e1 =>
      rw [ef] at hp
      cases x with
      | fr d =>
        simp only at hp
        cases hi : d.itm with
        | none => rw [hi] at hp; exact hp.elim
        | some ds =>
          rw [hi] at hp
          have key : ∀ {v H1 P1 B1}, Go X.K R H P σ H1 P1 e1 B1 → RO X.K H1 (msk H1 (own P1 fun q => B1 q ∨ R q)) (.fr d) v B1 → Go X.K R H P σ H1 P1 e1 Fp.emp ∧ RD X.K (msk H1 (own P1 R)) d v := fun g r => ⟨g.weak fun q z => z.elim, g.frzv a rfl r rfl⟩
          by_cases hl : ∃ ts, d = .tup ts
          · obtain ⟨ts, rfl⟩ := hl
            refine .inr (q R H P σ env a _ ?_)
            rw [ef]
            intro v H1 P1 B1 g r
            obtain ⟨g2, r2⟩ := key g r
            simp only [D.itm, Option.some.injEq] at hi
            subst hi
            simp only [RD] at r2
            obtain ⟨p, vs, h1, h2, h3⟩ := r2
            exact ⟨p, h1, ⟨vs, .of (msk_same _ _ h2)⟩, hp _ H1 P1 g2 (walk_tup (.of h2) h3)⟩
          · refine .inl (q R H P σ env a _ ?_)
            rw [ef]
            intro v H1 P1 B1 g r
            obtain ⟨g2, r2⟩ := key g r
            cases d <;> simp only [D.itm, Option.some.injEq, reduceCtorEq] at hi
            · exact absurd ⟨_, rfl⟩ hl
            · subst hi
              simp only [RD] at r2
              obtain ⟨p, vs, h1, h2, h3⟩ := r2
              exact ⟨p, h1, ⟨vs, .of (msk_same _ _ h2)⟩, hp _ H1 P1 g2 (walk_list (.of h2) h3)⟩
            · subst hi
              simp only [RD] at r2
              obtain ⟨p, h1, h2⟩ := r2
              exact ⟨p, h1, ⟨_, msk_same.seq h2⟩, hp _ H1 P1 g2 (walk_list h2 RDs.ints)⟩
      | _ => exact hp.elim
def rngI (a b : Int) : List D := (List.range (b - a).toNat).map fun i => .int (a + (i : Nat))
theorem walk_rng {K : PySem.W.Frag} {F : Hp} {a b : Int} : Walk K (Itr a (b - a).toNat) F (rngI a b) := by
  refine ⟨fun H O i d s e => ?_, fun H O s => by simp [rngI, Itr]; omega⟩
  simp only [rngI, List.getElem?_map, Option.map_eq_some_iff, List.getElem?_range'] at e
  obtain ⟨j, e1, e2⟩ := e
  obtain ⟨h1, h2⟩ := List.getElem?_eq_some_iff.mp e1
  simp only [List.getElem_range, List.length_range] at h1 h2
  subst h2
  refine ⟨h1, fun x H' _ y => ?_⟩
  obtain ⟨rfl, rfl⟩ := y
  subst e2
  exact ⟨Same.refl _, by simp only [RD]⟩
def okR (n : Int) : Bool := decide (-1000000 ≤ n) && decide (n ≤ LM)
def fItR1 (f : EF) : IF := fun env => match f env with
  | some (.ok x e) => (match x.d with
    | some (.int n) => if okR n then some (.ok (rngI 0 n) e) else none
    | _ => none)
  | some (.exc c) => some (.exc c)
  | none => none
theorem SI.rg1 {a : Expr} {f : EF} {p pos : Pos} (hg : Gl X "range") (hm : X.mg "range" = none) (hp : plainE a = true) (s : SE X W a f) : SI X W tg (.Call (.Name "range" p) [a] [] pos) (fItR1 f) := by
  obtain ⟨t, pa, q⟩ := s
  have hs : starEach [a] X.env = [(false, eval a X.env)] := starEach_plain hp
  refine ⟨_, pi_range1 hg hm (pa_cons pa pa_nil hs) hs, fun R H P σ env a Q hp => q R H P σ env a _ ?_⟩
  unfold fItR1 at hp
  cases ef : f env with
  | none => rw [ef] at hp; exact hp.elim
  | some s =>
    cases s with
    | exc c => rw [ef] at hp; exact hp
    | ok x e1 =>
      rw [ef] at hp
      intro v H1 P1 B1 g r
      simp only at hp
      cases ed : x.d with
      | none => rw [ed] at hp; exact hp.elim
      | some d =>
        cases d <;> simp only [ed] at hp <;> try exact hp.elim
        rename_i n
        split at hp
        · rename_i hn
          simp only [okR, Bool.and_eq_true, decide_eq_true_eq] at hn
          have hv := r.rd msk_same ed
          simp only [RD] at hv
          subst hv
          have := hp _ H1 P1 (g.weak fun q z => z.elim) walk_rng
          have hl : LM = 1000000 := rfl
          simp only [Int.sub_zero] at this
          exact ⟨n, rfl, by omega, by omega, this⟩
        · exact hp.elim
def fItR2 (fa : AF) : IF := fun env => match fa env with
  | some (.ok [x, y] e) => (match x.d, y.d with
    | some (.int n), some (.int m) => if okR n && okR m then some (.ok (rngI n m) e) else none
    | _, _ => none)
  | some (.exc c) => some (.exc c)
  | _ => none
theorem SI.rg2 {a b : Expr} {fa : AF} {p pos : Pos} (hg : Gl X "range") (hm : X.mg "range" = none) (hp : plainE a = true) (hp2 : plainE b = true) (s : SA X W [a, b] fa) : SI X W tg (.Call (.Name "range" p) [a, b] [] pos) (fItR2 fa) := by
  obtain ⟨t, pa, q⟩ := s
  refine ⟨_, pi_range2 hg hm pa (by rw [starEach_plain hp, starEach_plain hp2]; rfl) (starEach_plain hp2), fun R H P σ env a Q hp => q R H P σ env a _ ?_⟩
  unfold fItR2 at hp
  cases ef : fa env with
  | none => rw [ef] at hp; exact hp.elim
  | some s =>
    cases s with
    | exc c => rw [ef] at hp; exact hp
    | ok xs e1 =>
      rw [ef] at hp
      intro vs H1 P1 B1 g r
      match xs, hp, r with
      | [], hp, r => exact hp.elim
      | [x], hp, r => exact hp.elim
      | x :: y :: z :: zs, hp, r => exact hp.elim
      | [x, y], hp, r =>
        simp only at hp
        cases ex : x.d with
        | none => rw [ex] at hp; exact hp.elim
        | some d =>
          cases ey : y.d with
          | none => rw [ex, ey] at hp; exact (show False by cases d <;> exact hp).elim
          | some d' =>
            have rds := r.rd msk_same (ds := [d, d']) (by simp [OV.ds, ex, ey])
            obtain ⟨v, w, rfl, r1, r2⟩ := rds2 rds
            cases d <;> simp only [ex, ey] at hp <;> try exact hp.elim
            cases d' <;> simp only [ex, ey] at hp <;> try exact hp.elim
            rename_i n m
            split at hp
            · rename_i hn
              simp only [okR, Bool.and_eq_true, decide_eq_true_eq] at hn
              simp only [RD] at r1 r2
              subst r1 r2
              have := hp _ H1 P1 (g.weak fun q z => z.elim) walk_rng
              have hl : LM = 1000000 := rfl
              exact ⟨n, m, rfl, ⟨by omega, by omega, by omega, by omega⟩, this⟩
            · exact hp.elim
/-- zip of two lists -/
def fItZ (fa : AF) : IF := fun env => match fa env with
  | some (.ok [x, y] e) => if x.nv && y.nv then (match x.d, y.d with
    | some (.lst ds), some (.lst es) => some (.ok (List.zipWith (fun a b => D.tup [a, b]) ds es) e)
    | _, _ => none) else none
  | some (.exc c) => some (.exc c)
  | _ => none
theorem upd_same_new {p : Addr} {o : HO} (hp : H p = none) : Same H (upd H p o) := same_new hp
theorem walk_zip {K : PySem.W.Frag} {F : Hp} {a b : Addr} {vs ws : List V} {ds es : List D} (h1 : SqL K F a vs) (h2 : RDs K F ds vs) (k1 : SqL K F b ws) (k2 : RDs K F es ws) : Walk K (Itz K a b) F (List.zipWith (fun a b => D.tup [a, b]) ds es) := by
  have hl := h2.length
  have kl := k2.length
  refine ⟨fun H O i d s e => ?_, fun H O s => ⟨vs, ws, msk_same.seq (s.seq h1), msk_same.seq (s.seq k1), by simp only [List.length_zipWith]; omega⟩⟩
  rw [List.getElem?_zipWith] at e
  cases e1 : ds[i]? with
  | none => rw [e1] at e; cases e
  | some x =>
    cases e2 : es[i]? with
    | none => rw [e1, e2] at e; cases e
    | some y =>
      rw [e1, e2] at e
      simp only [Option.some.injEq] at e
      subst e
      obtain ⟨v, f1, f2⟩ := h2.get e1
      obtain ⟨w, g1, g2⟩ := k2.get e2
      have q := msk_same.seq (s.seq h1)
      have q' := msk_same.seq (s.seq k1)
      refine ⟨⟨vs, ws, v, w, q, q', f1, g1⟩, fun x H' hO z => ?_⟩
      obtain ⟨T, v', w', rfl, hT, rfl, z1, z2⟩ := z
      have z1 := z1 vs q
      have z2 := z2 ws q'
      rw [f1] at z1
      rw [g1] at z2
      cases z1
      cases z2
      have st : Same (msk H O) (msk (upd H T (.tup [v, w])) O) := msk_step (same_new hT) fun q z => .inl z
      refine ⟨same_new hT, ?_⟩
      simp only [RD]
      refine ⟨T, [v, w], rfl, msk_some.mpr ⟨fun z => hO T z hT, upd_same⟩, ?_⟩
      simp only [RDs]
      exact ⟨v, _, rfl, RD.mono (s.trans st) _ _ f2, w, _, rfl, RD.mono (s.trans st) _ _ g2, rfl⟩
theorem SI.zip {a b : Expr} {fa : AF} {p pos tpos : Pos} {elts : List Expr} {kk : Nat} (hg : Gl X "zip") (hm : X.mg "zip" = none) (hp : plainE a = true) (hp2 : plainE b = true) (s : SA X W [a, b] fa) :
    SI X W (.Tuple elts kk tpos) (.Call (.Name "zip" p) [a, b] [] pos) (fItZ fa) := by
  obtain ⟨t, pa, q⟩ := s
  refine ⟨_, pi_zip hg hm pa (starEach_plain hp) (by rw [starEach_plain hp2]; rfl), fun R H P σ env a Q hp => q R H P σ env a _ ?_⟩
  unfold fItZ at hp
  cases ef : fa env with
  | none => rw [ef] at hp; exact hp.elim
  | some s =>
    cases s with
    | exc c => rw [ef] at hp; exact hp
    | ok xs e1 =>
      rw [ef] at hp
      intro vs H1 P1 B1 g r
      match xs, hp, r with
      | [], hp, r => exact hp.elim
      | [x], hp, r => exact hp.elim
      | x :: y :: z :: zs, hp, r => exact hp.elim
      | [x, y], hp, r =>
        simp only at hp
        split at hp
        · rename_i hn
          simp only [Bool.and_eq_true] at hn
          cases ex : x.d with
          | none => rw [ex] at hp; exact hp.elim
          | some d =>
            cases ey : y.d with
            | none => rw [ex, ey] at hp; exact (show False by cases d <;> exact hp).elim
            | some d' =>
              have rds := g.frzs a (ds := [d, d']) (by simp [OV.nvs, hn.1, hn.2]) r (by simp [OV.ds, ex, ey])
              obtain ⟨v, w, rfl, r1, r2⟩ := rds2 rds
              cases d <;> simp only [ex, ey] at hp <;> try exact hp.elim
              cases d' <;> simp only [ex, ey] at hp <;> try exact hp.elim
              simp only [RD] at r1 r2
              obtain ⟨p, us, rfl, h2, h3⟩ := r1
              obtain ⟨p', us', rfl, h2', h3'⟩ := r2
              exact ⟨p, p', us, us', rfl, .of (msk_same _ _ h2), .of (msk_same _ _ h2'), hp _ H1 P1 (g.weak fun q z => z.elim) (walk_zip (.of h2) h3 (.of h2') h3')⟩
        · exact hp.elim
/-- reversed(a list) -/
def fItB (f : EF) : IF := fun env => match fSt f env with
  | some (.ok (.fr (.lst ds)) e) => some (.ok ds.reverse e)
  | some (.exc c) => some (.exc c)
  | _ => none
theorem walk_rev {K : PySem.W.Frag} {F : Hp} {a : Addr} {vs : List V} {ds : List D} (h1 : SqL K F a vs) (h2 : RDs K F ds vs) : Walk K (Itv K a vs.length) F ds.reverse := by
  have hl := h2.length
  refine ⟨fun H O i d s e => ?_, fun H O s => by simp [Itv, hl]⟩
  have hi : i < ds.length := by
    have := (List.getElem?_eq_some_iff.mp e).1
    simpa using this
  rw [List.getElem?_reverse hi] at e
  obtain ⟨v, e1, e2⟩ := h2.get e
  have q := msk_same.seq (s.seq h1)
  rw [hl] at e1
  refine ⟨⟨by omega, vs, v, q, e1⟩, fun x H' _ y => ?_⟩
  obtain ⟨rfl, y⟩ := y
  have := y vs q
  rw [e1] at this
  cases this
  exact ⟨Same.refl _, RD.mono s _ _ e2⟩
theorem SI.rev {a : Expr} {f : EF} {p pos : Pos} (hg : Gl X "reversed") (hm : X.mg "reversed" = none) (hp : plainE a = true) (s : SE X W a f) : SI X W tg (.Call (.Name "reversed" p) [a] [] pos) (fItB f) := by
  obtain ⟨t, pa, q⟩ := s.st
  have hs : starEach [a] X.env = [(false, eval a X.env)] := starEach_plain hp
  refine ⟨_, pi_reversed hg hm (pa_cons pa pa_nil hs) hs, fun R H P σ env a Q hp => q R H P σ env a _ ?_⟩
  unfold fItB at hp
  cases ef : fSt f env with
  | none => rw [ef] at hp; exact hp.elim
  | some s =>
    cases s with
    | exc c => rw [ef] at hp; exact hp
    | ok x e1 =>
      rw [ef] at hp
      cases x <;> try exact hp.elim
      rename_i d
      cases d <;> try exact hp.elim
      intro v H1 P1 B1 g r
      have r2 := g.frzv a rfl r rfl
      simp only [RD] at r2
      obtain ⟨p, vs, h1, h2, h3⟩ := r2
      subst h1
      exact ⟨p, vs, rfl, .of (msk_same _ _ h2), hp _ H1 P1 (g.weak fun q z => z.elim) (walk_rev (.of h2) h3)⟩
end

/-! ### targets -/
inductive Tg where
  | n (i : Nat) | t (is : List Nat)
def bindAll : List Nat → List D → List OV → Option (List OV)
  | [], [], e => some e
  | i :: is, d :: ds, e => if i < e.length then bindAll is ds (e.set i (.fr d)) else none
  | _, _, _ => none
def Tg.bind : Tg → D → List OV → Option (List OV)
  | .n i, d, e => bindAll [i] [d] e
  | .t is, .tup ds, e => bindAll is ds e
  | _, _, _ => none
def Tg.ix : Tg → List Nat
  | .n i => [i]
  | .t is => is
theorem wipe_get {σ : Sl} {i : Nat} : ∀ {ws : List Nat}, (wipe σ ws)[i]? = if i ∈ ws then (σ[i]?).map fun _ => none else σ[i]?
  | [] => by simp [wipe]
  | w :: ws => by
    unfold wipe
    by_cases e : w = i
    · subst e
      simp only [List.mem_cons, true_or, if_true]
      by_cases hl : w < σ.length
      · rw [List.getElem?_set_self (by rw [wipe_length]; exact hl)]
        simp [hl]
      · rw [List.getElem?_eq_none (by rw [List.length_set, wipe_length]; omega), List.getElem?_eq_none (by omega)]
        rfl
    · rw [List.getElem?_set_ne e, wipe_get]
      have e' : ¬ i = w := fun z => e z.symm
      simp [e']
theorem wipe_set {σ : Sl} {i : Nat} {o : Option V} {ws : List Nat} (h : i ∈ ws) : wipe (σ.set i o) ws = wipe σ ws := by
  apply List.ext_getElem?
  intro j
  rw [wipe_get, wipe_get]
  by_cases hj : j ∈ ws
  · simp only [hj, if_true]
    by_cases e : i = j
    · subst e
      by_cases hl : i < σ.length
      · rw [List.getElem?_set_self hl]; simp [hl]
      · rw [List.getElem?_eq_none (by simp; omega), List.getElem?_eq_none (by omega)]
    · rw [List.getElem?_set_ne e]
  · simp only [hj, if_false]
    rw [List.getElem?_set_ne (by rintro rfl; exact hj h)]
theorem wipe_wipe {σ : Sl} {ws : List Nat} : wipe (wipe σ ws) ws = wipe σ ws := by
  apply List.ext_getElem?
  intro j
  rw [wipe_get, wipe_get]
  split
  · cases σ[j]? <;> rfl
  · rfl
/-- the machine binds a target -/
def SG (X : Cx) (te : Expr) (tg : Tg) : Prop := ∃ g : TG, PG X te g ∧ ∀ H F P σ env d v env2, Same F H → ER X.K H F env σ P → RD X.K F d v → tg.bind d env = some env2 → ∀ Q : Sl → Hp → Prop,
  (∀ σ2 P2, ER X.K H F env2 σ2 P2 → (∀ q, Fam.un P2 q → Fam.un P q) → (∀ ws : List Nat, (∀ i ∈ tg.ix, i ∈ ws) → wipe σ2 ws = wipe σ ws) → Q σ2 H) → g v σ H Q
def SGs (X : Cx) (tes : List Expr) (is : List Nat) : Prop := ∃ g : TGs, PGs X tes g ∧ ∀ H F P σ env ds vs env2, Same F H → ER X.K H F env σ P → RDs X.K F ds vs → bindAll is ds env = some env2 → ∀ Q : Sl → Hp → Prop,
  (∀ σ2 P2, ER X.K H F env2 σ2 P2 → (∀ q, Fam.un P2 q → Fam.un P q) → (∀ ws : List Nat, (∀ i ∈ is, i ∈ ws) → wipe σ2 ws = wipe σ ws) → Q σ2 H) → g vs σ H Q
section
variable {X : Cx}
theorem un_setE {P : Nat → Fp} {i : Nat} {q : Addr} (h : Fam.un (setF P i Fp.emp) q) : Fam.un P q := by
  rcases un_set h with z | ⟨j, hj, z⟩
  · exact z.elim
  · exact ⟨j, z⟩
theorem SG.name {i : Nat} {x : Str} {pos : Pos} (hN : X.N.Nodup) (hi : X.N[i]? = some x) (hx : Loc X.env.scope x) (hf : X.fn x = true ∨ X.env.scope.names.lookup x = some .local) : SG X (.Name x pos) (.n i) := by
  refine ⟨_, pg_name hN hi hx hf, fun H F P σ env d v env2 s er r e Q q => ?_⟩
  simp only [Tg.bind, bindAll] at e
  split at e
  · rename_i hl
    simp only [Option.some.injEq] at e
    subst e
    refine q _ (setF P i Fp.emp) (er.set hl rfl (OR.of_ro ⟨r, fun _ z => z⟩) fun j q _ _ z => z) (fun q z => un_setE z) fun ws h => wipe_set (h i (by simp [Tg.ix]))
  · cases e
theorem SGs.nil : SGs X [] [] := by
  refine ⟨_, pgs_nil, fun H F P σ env ds vs env2 s er r e Q q => ?_⟩
  cases ds with
  | nil =>
    simp only [bindAll, Option.some.injEq] at e
    subst e
    simp only [RDs] at r
    exact ⟨r, q σ P er (fun q z => z) fun ws _ => rfl⟩
  | cons d ds => simp [bindAll] at e
theorem SGs.cons {i : Nat} {is : List Nat} {x : Str} {pos : Pos} {tes : List Expr} (hN : X.N.Nodup) (hi : X.N[i]? = some x) (hx : Loc X.env.scope x) (hf : X.fn x = true ∨ X.env.scope.names.lookup x = some .local) (r : SGs X tes is) : SGs X (.Name x pos :: tes) (i :: is) := by
  obtain ⟨g, p, q⟩ := r
  refine ⟨_, pgs_cons (pg_name hN hi hx hf) p, fun H F P σ env ds vs env2 s er r e Q hq => ?_⟩
  cases ds with
  | nil => simp [bindAll] at e
  | cons d ds =>
    simp only [bindAll] at e
    split at e
    · rename_i hl
      simp only [RDs] at r
      obtain ⟨v, w, h1, h2, h3⟩ := r
      refine ⟨v, w, h1, ?_⟩
      have er2 := er.set (i := i) (y := .fr d) (o := some v) (B := Fp.emp) hl rfl (OR.of_ro ⟨h2, fun _ z => z⟩) fun j q _ _ z => z
      refine q H F _ _ _ ds w env2 s er2 h3 e Q fun σ2 P2 er3 hs hw => hq σ2 P2 er3 (fun q z => un_setE (hs q z)) fun ws h => ?_
      rw [hw ws fun j hj => h j (List.mem_cons_of_mem _ hj), wipe_set (h i List.mem_cons_self)]
    · cases e
theorem SG.tup {is : List Nat} {tes : List Expr} {k : Nat} {pos : Pos} (hc : X.calm = true) (hl : tes.length = is.length) (r : SGs X tes is) (hn : (assignEach tes X.env).length = tes.length) (hst : (assignEach tes X.env).findIdx? (·.1) = none) : SG X (.Tuple tes k pos) (.t is) := by
  obtain ⟨g, p, q⟩ := r
  refine ⟨_, pg_tup hc p hn hst, fun H F P σ env d v env2 s er r e Q hq => ?_⟩
  cases d <;> simp only [Tg.bind, reduceCtorEq] at e
  rename_i ds
  simp only [RD] at r
  obtain ⟨a, vs, h1, h2, h3⟩ := r
  have len : ∀ {is : List Nat} {ds : List D} {env env2 : List OV}, bindAll is ds env = some env2 → ds.length = is.length := by
    intro is
    induction is with
    | nil => intro ds env env2 h; cases ds <;> simp [bindAll] at h ⊢
    | cons i is ih =>
      intro ds env env2 h
      cases ds with
      | nil => simp [bindAll] at h
      | cons d ds =>
        simp only [bindAll] at h
        split at h
        · simp [ih h]
        · cases h
  refine ⟨a, vs, h1, .of (s _ _ h2), ?_, q H F P σ env ds vs env2 s er h3 e Q hq⟩
  rw [← h3.length, len e, hl]
end
end PL

/-! PL11: comprehensions -/
namespace PL
open PySem PySem.Spec PyProof.Rows L2

/-! ### one rule for an expression, told by what it does alone -/
def tOf (X : Cx) (W : WX) (f : EF) : TE := fun σ H Q => ∃ R P env, At X.K R H P σ env ∧ EPost X W R H P σ (f env) Q
def tOfT (X : Cx) (W : WX) (f : EF) : TT := fun σ H Q => ∃ R P env, At X.K R H P σ env ∧ BPost X W R H P σ (f env) Q
def tOfG (X : Cx) (tg : Tg) : TG := fun v σ H Q => ∃ F P env d env2, Same F H ∧ ER X.K H F env σ P ∧ RD X.K F d v ∧ tg.bind d env = some env2 ∧
  ∀ σ2 P2, ER X.K H F env2 σ2 P2 → (∀ q, Fam.un P2 q → Fam.un P q) → (∀ ws : List Nat, (∀ i ∈ tg.ix, i ∈ ws) → wipe σ2 ws = wipe σ ws) → Q σ2 H
section
variable {X : Cx} {W : WX} {R B : Fp} {H H' H2 : Hp} {P P' : Nat → Fp} {σ : Sl} {env env' : List OV}
theorem SE.can {e : Expr} {f : EF} (s : SE X W e f) : PE X e (tOf X W f) := by
  obtain ⟨t, p, q⟩ := s
  exact ⟨fun pins s σ H Q I ⟨R, P, env, a, h⟩ => p.run pins s σ H Q I (q R H P σ env a Q h)⟩
theorem STe.can {e : Expr} {f : EF} (s : STe X W e f) : PT X e (tOfT X W f) := by
  obtain ⟨t, p, q⟩ := s
  exact ⟨fun pins s σ H Q I ⟨R, P, env, a, h⟩ => p.run pins s σ H Q I (q R H P σ env a Q h)⟩
theorem SG.can {e : Expr} {tg : Tg} (s : SG X e tg) : PG X e (tOfG X tg) := by
  obtain ⟨t, p, q⟩ := s
  exact ⟨fun pins s σ H v u Q I r ⟨F, P, env, d, env2, h1, h2, h3, h4, h5⟩ => p.run pins s σ H v u Q I r (q H F P σ env d v env2 h1 h2 h3 h4 Q h5)⟩

/-! ### slots wiped -/
def wipeE (env : List OV) : List Nat → List OV
  | [] => env
  | v :: vs => (wipeE env vs).set v .hole
theorem wipeE_length : ∀ {ws : List Nat}, (wipeE env ws).length = env.length
  | [] => rfl
  | w :: ws => by unfold wipeE; rw [List.length_set, wipeE_length]
theorem wipeE_get {i : Nat} : ∀ {ws : List Nat}, (wipeE env ws)[i]? = if i ∈ ws then (env[i]?).map fun _ => .hole else env[i]?
  | [] => by simp [wipeE]
  | w :: ws => by
    unfold wipeE
    by_cases e : w = i
    · subst e
      simp only [List.mem_cons, true_or, if_true]
      by_cases hl : w < env.length
      · rw [List.getElem?_set_self (by rw [wipeE_length]; exact hl)]
        simp [hl]
      · rw [List.getElem?_eq_none (by rw [List.length_set, wipeE_length]; omega), List.getElem?_eq_none (by omega)]
        rfl
    · rw [List.getElem?_set_ne e, wipeE_get]
      have e' : ¬ i = w := fun z => e z.symm
      simp [e']
open Classical in
noncomputable def wipeF (P : Nat → Fp) (ws : List Nat) : Nat → Fp := fun i => if i ∈ ws then Fp.emp else P i
theorem wipeF_sub {ws : List Nat} {i : Nat} {q : Addr} (h : wipeF P ws i q) : P i q ∧ i ∉ ws := by
  unfold wipeF at h
  split at h
  · exact h.elim
  · exact ⟨h, by assumption⟩
theorem wipeF_un {ws : List Nat} {q : Addr} (h : Fam.un (wipeF P ws) q) : Fam.un P q := let ⟨i, z⟩ := h; ⟨i, (wipeF_sub z).1⟩
theorem ER.wipe {K : PySem.W.Frag} {F : Hp} (h : ER K H F env σ P) (ws : List Nat) : ER K H F (wipeE env ws) (wipe σ ws) (wipeF P ws) := by
  refine ⟨⟨fun i j q a b => h.fam.apart i j q (wipeF_sub a).1 (wipeF_sub b).1, fun i q a => by rw [wipeE_length]; exact h.fam.lt i q (wipeF_sub a).1⟩, by rw [wipe_length, wipeE_length, h.len], fun i x e => ?_⟩
  rw [wipeE_get] at e
  rw [wipe_get]
  by_cases hi : i ∈ ws
  · simp only [hi, if_true, Option.map_eq_some_iff] at e ⊢
    obtain ⟨y, e1, e2⟩ := e
    subst e2
    obtain ⟨_, o, e3, _⟩ := h.at_ i y e1
    refine ⟨rfl, none, ⟨o, e3, rfl⟩, ?_⟩
    unfold wipeF
    rw [if_pos hi]
    exact OR.hole
  · simp only [hi, if_false] at e ⊢
    unfold wipeF
    rw [if_neg hi]
    exact h.at_ i x e
theorem ER.unwipe {K : PySem.W.Frag} {F : Hp} {ws : List Nat} (h : ER K H F env (L2.wipe σ ws) P) : ER K H F (wipeE env ws) σ (wipeF P ws) := by
  refine ⟨⟨fun i j q a b => h.fam.apart i j q (wipeF_sub a).1 (wipeF_sub b).1, fun i q a => by rw [wipeE_length]; exact h.fam.lt i q (wipeF_sub a).1⟩, by rw [wipeE_length, ← h.len, wipe_length], fun i x e => ?_⟩
  rw [wipeE_get] at e
  by_cases hi : i ∈ ws
  · simp only [hi, if_true, Option.map_eq_some_iff] at e
    obtain ⟨y, e1, e2⟩ := e
    subst e2
    have hl := (List.getElem?_eq_some_iff.mp e1).1
    have hl2 : i < σ.length := by have := h.len; rw [wipe_length] at this; omega
    refine ⟨rfl, σ[i], by simp [hl2], ?_⟩
    unfold wipeF
    rw [if_pos hi]
    exact OR.hole
  · simp only [hi, if_false] at e
    unfold wipeF
    rw [if_neg hi]
    obtain ⟨n, o, e1, e2⟩ := h.at_ i x e
    rw [wipe_get] at e1
    simp only [hi, if_false] at e1
    exact ⟨n, o, e1, e2⟩
theorem At.wipe (a : At X.K R H P σ env) (ws : List Nat) : At X.K R H (wipeF P ws) (L2.wipe σ ws) (wipeE env ws) :=
  ⟨(a.er.wipe ws).mono (Same.refl _) (msk_sub fun q z => z.elim (fun z => .inl (wipeF_un z)) .inr), a.rd, fun q z => a.dj q (wipeF_un z)⟩
end

/-! ### the comprehension -/
def lcRun (tg : Tg) (fc fe : EF) (ws : List Nat) : List D → List OV → Option (List OV × List OV)
  | [], e => some ([], e)
  | d :: ds, e => (tg.bind d e).bind fun e2 => match fc e2 with
    | some (.ok (.fr (.bl true)) e3) => (match fe e3 with
      | some (.ok y e4) => if y.nv then (lcRun tg fc fe ws ds (wipeE e4 ws)).map fun r => (y :: r.1, r.2) else none
      | _ => none)
    | some (.ok (.fr (.bl false)) e3) => lcRun tg fc fe ws ds (wipeE e3 ws)
    | _ => none
def fLc (fi : IF) (tg : Tg) (fc fe : EF) (ws : List Nat) : EF := fun env => match fi env with
  | some (.ok ds e1) => (match lcRun tg fc fe ws ds (wipeE e1 ws) with
    | some (ys, e2) => if ys.length ≤ LM then some (.ok (.ol ys) (wipeE e2 ws)) else none
    | none => none)
  | some (.exc c) => some (.exc c)
  | none => none
def fYes : EF := fun env => some (.ok (.fr (.bl true)) env)
section
variable {X : Cx} {W : WX} {R B : Fp} {H H' H2 : Hp} {P P' : Nat → Fp} {σ : Sl} {env env' : List OV}
theorem nvs_append : ∀ {xs ys : List OV}, OV.nvs (xs ++ ys) = (OV.nvs xs && OV.nvs ys)
  | [], ys => by simp [OV.nvs]
  | x :: xs, ys => by simp [OV.nvs, nvs_append (xs := xs), Bool.and_assoc]
/-- the turns' state: the new list at D with acc, its own lists Bk -/
structure LcSt (K : PySem.W.Frag) (R : Fp) (H1 : Hp) (P1 : Nat → Fp) (σw : Sl) (D : Addr) (H : Hp) (P : Nat → Fp) (e : List OV) (Bk : Fp) (acc : List OV) (vs : List V) : Prop where
  go : Go K R H1 P1 σw H P e (fun q => Bk q ∨ q = D)
  nD : ¬ Bk D
  hD : H D = some (.lst vs)
  ro : ROs K H (msk H (own P fun q => (Bk q ∨ q = D) ∨ R q)) acc vs Bk
  nv : OV.nvs acc = true
theorem tYes_ok {f : EF} (h : f = fYes) : ∀ R H P σ env, At X.K R H P σ env → ∀ Q : Bool → Hp → Prop, BPost X W R H P σ (f env) Q → tYes σ H Q := by
  subst h
  intro R H P σ env a Q hp
  obtain ⟨b, e, q⟩ := hp
  cases e
  exact q H P (Go.refl a)
theorem lc_sound {wi : TI} {fi : IF} {tg : Tg} {fc fe : EF} {ws : List Nat} {tt : TT} (ht : tg.ix.all (fun i => ws.contains i) = true)
    (qi : ∀ R H P σ env, At X.K R H P σ env → ∀ Q : It → Hp → Prop, IPost X W R H P σ (fi env) Q → wi σ H Q)
    (qt : ∀ R H P σ env, At X.K R H P σ env → ∀ Q : Bool → Hp → Prop, BPost X (fun _ _ _ _ => False) R H P σ (fc env) Q → tt σ H Q)
    (a : At X.K R H P σ env) {Q : VK} (hp : EPost X W R H P σ (fLc fi tg fc fe ws env) Q) : tLc wi (tOfG X tg) tt (tOf X (fun _ _ _ _ => False) fe) ws σ H Q := by
  have ht' : ∀ i ∈ tg.ix, i ∈ ws := fun i hi => by
    have := List.all_eq_true.mp ht i hi
    simpa using this
  unfold fLc at hp
  refine qi R H P σ env a _ ?_
  cases ei : fi env with
  | none => rw [ei] at hp; exact hp.elim
  | some r =>
    cases r with
    | exc c => rw [ei] at hp; exact hp
    | ok ds e1 =>
      rw [ei] at hp
      intro J H1 P1 g1 wk D hD
      simp only at hp
      cases er : lcRun tg fc fe ws ds (wipeE e1 ws) with
      | none => rw [er] at hp; exact hp.elim
      | some re =>
        obtain ⟨ys, ef⟩ := re
        rw [er] at hp
        simp only at hp
        split at hp
        next hlen =>
          have a1 := (g1.at0 a).wipe ws
          have fin : ∀ {H P e Bk vs}, LcSt X.K R H1 (wipeF P1 ws) (L2.wipe σ ws) D H P e Bk ys vs → e = ef → Q (.ref D) H := fun {Hf Pf e Bk vs} s ee => by
            subst ee
            have g2 : Go X.K R H1 P1 σ Hf (wipeF Pf ws) (wipeE e ws) (fun q => Bk q ∨ q = D) := by
              refine ⟨s.go.same, (ER.unwipe s.go.er).mono (Same.refl _) (msk_sub fun q z => z.elim (fun z => .inl (wipeF_un z)) .inr), fun q z => s.go.dj q (wipeF_un z), fun q z => ?_, s.go.bd⟩
              rcases s.go.fp q (z.imp wipeF_un id) with z | z
              · exact .inl (wipeF_un z)
              · exact .inr z
            refine hp _ Hf (wipeF Pf ws) (fun q => Bk q ∨ q = D) (g1.trans0 a g2) ?_
            simp only [RO]
            refine ⟨D, vs, Bk, rfl, s.hD, s.ro.sub fun q z => z.elim (fun z => .inl (wipeF_un z)) .inr, s.nD, fun q => or_comm⟩
          refine ⟨fun i m H => m = ds.length - i ∧ i ≤ ds.length ∧ ∃ P e Bk acc vs rs, LcSt X.K R H1 (wipeF P1 ws) (L2.wipe σ ws) D H P e Bk acc vs ∧ lcRun tg fc fe ws (ds.drop i) e = some (rs, ef) ∧ acc ++ rs = ys,
            ⟨ds.length, by omega, Nat.zero_le _, wipeF P1 ws, wipeE e1 ws, Fp.emp, [], [], ys, ?_, by simpa using er, rfl⟩, ?_⟩
          · have g0 := (Go.refl a1).new a1 (p := D) (o := .lst []) (B2 := fun q => Fp.emp q ∨ q = D) hD fun q z => z.elim (fun z => z.elim) fun z => .inr ⟨z, [], rfl⟩
            exact ⟨g0, fun z => z, upd_same, by simp [ROs, Fp.emp], rfl⟩
          rintro i m H ⟨rfl, hi, P2, e, Bk, acc, vs, rs, st, run, eq⟩
          have a2 := st.go.at a1
          have fz : Same (msk H1 (own P1 R)) (msk H (own P2 fun q => (Bk q ∨ q = D) ∨ R q)) := (msk_sub (fun q z => z.elim (fun z => .inl (wipeF_un z)) .inr)).trans (st.go.frz a1)
          by_cases hlt : i < ds.length
          · refine .inr ?_
            have hd : ds[i]? = some ds[i] := by simp [hlt]
            have cs : ds.drop i = ds[i] :: ds.drop (i + 1) := by rw [List.drop_eq_getElem_cons hlt]
            rw [cs] at run
            simp only [lcRun] at run
            obtain ⟨go, yl⟩ := wk.go H (own P2 fun q => (Bk q ∨ q = D) ∨ R q) i ds[i] fz hd
            refine ⟨go, fun H => ∃ P e Bk acc vs rs, LcSt X.K R H1 (wipeF P1 ws) (L2.wipe σ ws) D H P e Bk acc vs ∧ lcRun tg fc fe ws (ds.drop (i + 1)) e = some (rs, ef) ∧ acc ++ rs = ys, fun H' h => ⟨_, by omega, rfl, hlt, h⟩, fun x H' hy => ?_⟩
            obtain ⟨s', rd⟩ := yl x H' (fun q z e => by obtain ⟨ws, k⟩ := a2.out q z; rw [e] at k; cases k) hy
            have a3 := a2.grow s'
            cases eb : tg.bind ds[i] e with
            | none => rw [eb] at run; cases run
            | some e2 =>
              rw [eb, Option.bind_some] at run
              refine ⟨_, P2, e, ds[i], e2, msk_same, a3.er, rd, eb, fun σ2 P3 er3 hs hw => ⟨?_, ?_⟩⟩
              · rw [hw ws ht', wipe_wipe]
              have hσ : L2.wipe σ2 ws = L2.wipe σ ws := by rw [hw ws ht', wipe_wipe]
              have a4 : At X.K (fun q => (Bk q ∨ q = D) ∨ R q) H' P3 σ2 e2 := ⟨er3.mono (Same.refl _) (msk_sub fun q z => z.imp (hs q) id), a3.rd, fun q z => a3.dj q (hs q z)⟩
              have step1 : Same (msk H (own P2 fun q => (Bk q ∨ q = D) ∨ R q)) (msk H' (own P3 fun q => (Bk q ∨ q = D) ∨ R q)) := msk_step s' fun q z => .inl (z.imp (hs q) id)
              -- without a new item
              have skip : ∀ {H3 P4 e3}, Go X.K (fun q => (Bk q ∨ q = D) ∨ R q) H' P3 σ2 H3 P4 e3 Fp.emp → LcSt X.K R H1 (wipeF P1 ws) (L2.wipe σ ws) D H3 (wipeF P4 ws) (wipeE e3 ws) Bk acc vs := fun {H3 P4 e3} g3 => by
                have a5 := g3.at0 a4
                have s3 := s'.trans g3.same
                have fr3 : Same (msk H (own P2 fun q => (Bk q ∨ q = D) ∨ R q)) (msk H3 (own (wipeF P4 ws) fun q => (Bk q ∨ q = D) ∨ R q)) := msk_step s3 fun q z => by
                  rcases z with z | z
                  · rcases g3.fp q (.inl (wipeF_un z)) with z | z
                    · exact .inl (.inl (hs q z))
                    · exact .inr (s'.free z)
                  · exact .inl (.inr z)
                refine ⟨⟨st.go.same.trans s3, ?_, fun q z b => a5.dj q (wipeF_un z) (.inl b), fun q z => ?_, fun q b => ?_⟩, st.nD, s3 _ _ st.hD, st.ro.mono s3 fr3, st.nv⟩
                · have := (a5.wipe ws).er
                  rw [hσ] at this
                  exact this
                · rcases z with z | z
                  · rcases g3.fp q (.inl (wipeF_un z)) with z | z
                    · exact st.go.fp q (.inl (hs q z))
                    · exact .inr ((st.go.same.trans s').free z)
                  · exact st.go.fp q (.inr z)
                · obtain ⟨ws, k⟩ := st.go.bd q b
                  exact ⟨ws, s3 _ _ k⟩
              refine qt _ H' P3 σ2 e2 a4 _ ?_
              cases ec : fc e2 with
              | none => rw [ec] at run; cases run
              | some rc =>
                cases rc with
                | exc c => rw [ec] at run; cases run
                | ok z e3 =>
                  rw [ec] at run
                  cases z <;> try cases run
                  rename_i dz
                  cases dz <;> try cases run
                  rename_i b
                  refine ⟨b, rfl, fun H3 P4 g3 => ?_⟩
                  cases b with
                  | false =>
                    simp only [Bool.false_eq_true, if_false]
                    exact ⟨_, _, _, _, _, rs, skip g3, run, eq⟩
                  | true =>
                    simp only [if_true]
                    simp only at run
                    have a5 := g3.at0 a4
                    refine ⟨_, P4, e3, a5, ?_⟩
                    cases ee : fe e3 with
                    | none => rw [ee] at run; cases run
                    | some ry =>
                      cases ry with
                      | exc c => rw [ee] at run; cases run
                      | ok y e4 =>
                        rw [ee] at run
                        simp only at run
                        split at run
                        next ny =>
                          rw [Option.map_eq_some_iff] at run
                          obtain ⟨⟨rs2, ef2⟩, run, re⟩ := run
                          simp only [Prod.mk.injEq] at re
                          obtain ⟨re1, re2⟩ := re
                          subst re1 re2
                          intro v H4 P5 B5 g4 r4
                          have g34 := g3.trans0 a4 g4
                          have a6 := g34.at a4
                          have s4 := s'.trans g34.same
                          have hD4 : H4 D = some (.lst vs) := s4 _ _ st.hD
                          have nB5 : ¬ B5 D := fun z => g34.bR a4 D z (.inl (.inr rfl))
                          have nP5 : ∀ q, Fam.un P5 q → q ≠ D := fun q z e => a6.dj q z (.inr (.inl (.inr e)))
                          have hl : acc.length + (y :: rs2).length = ys.length := by rw [← List.length_append, eq]
                          refine ⟨vs, hD4, ?_, wipeF P5 ws, wipeE e4 ws, fun q => Bk q ∨ B5 q, acc ++ [y], vs ++ [v], rs2, ?_, run, by simpa using eq⟩
                          · have h1 := st.ro.length
                            have h2 := lm_line
                            simp only [List.length_cons] at hl
                            omega
                          have tups : ∀ q us, H4 q = some (.tup us) → upd H4 D (.lst (vs ++ [v])) q = some (.tup us) := fun q us k => by
                            rw [upd_ne (fun z => by subst z; rw [hD4] at k; cases k)]; exact k
                          have fr5 : Same (msk H4 (own P5 fun q => B5 q ∨ (Bk q ∨ q = D) ∨ R q)) (msk (upd H4 D (.lst (vs ++ [v]))) (own (wipeF P5 ws) fun q => ((Bk q ∨ B5 q) ∨ q = D) ∨ R q)) := fun q o k => by
                            obtain ⟨k1, k2⟩ := msk_some.mp k
                            refine msk_some.mpr ⟨fun z => k1 ?_, ?_⟩
                            · rcases z with z | ((z | z) | z) | z
                              · exact .inl (wipeF_un z)
                              · exact .inr (.inr (.inl (.inl z)))
                              · exact .inr (.inl z)
                              · exact .inr (.inr (.inl (.inr z)))
                              · exact .inr (.inr (.inr z))
                            · rw [upd_ne (fun z => k1 (.inr (.inr (.inl (.inr z)))))]
                              exact k2
                          have fr4 : Same (msk H (own P2 fun q => (Bk q ∨ q = D) ∨ R q)) (msk H4 (own P5 fun q => B5 q ∨ (Bk q ∨ q = D) ∨ R q)) := msk_step s4 fun q z => by
                            have far : H' q = none → H q = none := fun z => s'.free z
                            rcases z with z | z | z
                            · rcases g34.fp q (.inl z) with z | z
                              · exact .inl (.inl (hs q z))
                              · exact .inr (far z)
                            · rcases g34.fp q (.inr z) with z | z
                              · exact .inl (.inl (hs q z))
                              · exact .inr (far z)
                            · exact .inl (.inr z)
                          have dB : ∀ q, Bk q → ¬ B5 q := fun q b z => g34.bR a4 q z (.inl (.inl b))
                          refine ⟨⟨?_, ?_, fun q z b => ?_, fun q z => ?_, fun q b => ?_⟩, fun z => z.elim st.nD nB5, upd_same, ?_, ?_⟩
                          · intro q o k
                            rw [upd_ne (ne_of_none k hD)]
                            exact s4 _ _ (st.go.same _ _ k)
                          · have := (a6.er.wipe ws).mono (Same.refl _) (Same.refl _)
                            rw [hσ] at this
                            exact this.cong tups fr5 fun q z => by rw [upd_ne (nP5 q (wipeF_un z))]
                          · have z := wipeF_un z
                            rcases b with (b | b) | b
                            · exact a6.dj q z (.inr (.inl (.inl b)))
                            · exact a6.dj q z (.inl b)
                            · exact a6.dj q z (.inr (.inl (.inr b)))
                          · have far : H' q = none → H1 q = none := fun z => (st.go.same.trans s').free z
                            have old : (Fam.un P5 q ∨ B5 q) → Fam.un (wipeF P1 ws) q ∨ H1 q = none := fun z => by
                              rcases g34.fp q z with z | z
                              · exact st.go.fp q (.inl (hs q z))
                              · exact .inr (far z)
                            rcases z with z | (z | z) | z
                            · exact old (.inl (wipeF_un z))
                            · exact st.go.fp q (.inr (.inl z))
                            · exact old (.inr z)
                            · exact st.go.fp q (.inr (.inr z))
                          · by_cases hq : q = D
                            · subst hq; exact ⟨_, upd_same⟩
                            · rw [upd_ne hq]
                              rcases b with (b | b) | b
                              · obtain ⟨us, k⟩ := st.go.bd q (.inl b)
                                exact ⟨us, s4 _ _ k⟩
                              · exact g34.bd q b
                              · exact absurd b hq
                          · have r0 := st.ro.mono s4 fr4
                            have r1 : ROs X.K H4 (msk H4 (own P5 fun q => B5 q ∨ (Bk q ∨ q = D) ∨ R q)) [y] [v] B5 := by
                              simp only [ROs]
                              refine ⟨v, [], B5, Fp.emp, rfl, ?_, ⟨rfl, fun _ z => z⟩, fun _ _ z => z, fun q => by simp [Fp.emp]⟩
                              exact r4.mono (Same.refl _) (Same.refl _)
                            have r2 := ROs.append r0 r1 dB
                            refine ROs.cong tups fr5 (fun q z => ?_) (by rw [nvs_append, st.nv]; simp [OV.nvs, ny]) r2
                            rw [upd_ne (fun e => by subst e; exact z.elim st.nD nB5)]
                          · rw [nvs_append, st.nv]; simp [OV.nvs, ny]
                        next => cases run
          · refine .inl ?_
            have e' : i = ds.length := by omega
            subst e'
            rw [List.drop_length] at run
            simp only [lcRun, Option.some.injEq, Prod.mk.injEq] at run
            obtain ⟨r1, r2⟩ := run
            subst r1
            rw [List.append_nil] at eq
            subst eq
            exact ⟨wk.stop H _ fz, fin st r2⟩
        next => exact hp.elim
abbrev wF : WX := fun _ _ _ _ => False
/-- what a comprehension leans on -/
structure LcOk (X : Cx) (W : WX) (tge iter elt : Expr) (ifs : List Expr) (scope : Scope) (own : List (Str × Nat)) (fi : IF) (tg : Tg) (fc fe : EF) : Prop where
  it : SI X W tge iter fi
  blk : BlkOk X.N X.env.scope scope own
  tgs : ∀ (s : Shared) (H : Hp) (C : Addr) (cl : List (Str × Addr)) (fp : List Addr), SG (X.blk s H scope (compEnvC scope cl C X.env) fp) tge tg
  ifs : (ifs = [] ∧ fc = fYes) ∨ ∃ c, ifs = [c] ∧ ∀ (s : Shared) (H : Hp) (C : Addr) (cl : List (Str × Addr)) (fp : List Addr), STe (X.blk s H scope (compEnvC scope cl C X.env) fp) wF c fc
  elt : ∀ (s : Shared) (H : Hp) (C : Addr) (cl : List (Str × Addr)) (fp : List Addr), SE (X.blk s H scope (compEnvC scope cl C X.env) fp) wF elt fe
  set : ∀ x, foldedSetIterable iter X.env x = pure x
  own : tg.ix.all (fun i => (own.map (·.2)).contains i) = true
/-- e as a value and as the value of an assignment to the name at i -/
theorem SE.lc {tge iter elt : Expr} {ifs : List Expr} {scope : Scope} {own : List (Str × Nat)} {fi : IF} {tg : Tg} {fc fe : EF} {pos : Pos} (hc : X.calm = true) (hN : X.N.Nodup) (l : LcOk X W tge iter elt ifs scope own fi tg fc fe) :
    SE X W (.ListComp elt [⟨tge, iter, ifs, 0⟩] scope pos) (fLc fi tg fc fe (own.map (·.2))) := by
  obtain ⟨wi, pi, qi⟩ := l.it
  rcases l.ifs with ⟨rfl, hf⟩ | ⟨c, rfl, hcs⟩
  · exact ⟨_, pe_lc (wi := wi) (g := tOfG X tg) (tt := tYes) (te := tOf X wF fe) hc hN pi l.blk (fun s H C cl fp => (l.tgs s H C cl fp).can) (fun s H C cl fp => pts_nil) (fun s H C cl fp => (l.elt s H C cl fp).can) l.set,
      fun R H P σ env a Q hp => lc_sound l.own qi (tYes_ok hf) a hp⟩
  · exact ⟨_, pe_lc (wi := wi) (g := tOfG X tg) (tt := tOfT X wF fc) (te := tOf X wF fe) hc hN pi l.blk (fun s H C cl fp => (l.tgs s H C cl fp).can) (fun s H C cl fp => pts_one (hcs s H C cl fp).can) (fun s H C cl fp => (l.elt s H C cl fp).can) l.set,
      fun R H P σ env a Q hp => lc_sound l.own qi (fun R H P σ env a Q h => ⟨R, P, env, a, h⟩) a hp⟩
/-- an expression as the value of `name = e` -/
def SEA (X : Cx) (W : WX) (y : Str) (py spos : Pos) (i : Nat) (e : Expr) (f : EF) : Prop := ∃ t : TE, PS X (.Assign [.Name y py] e spos) (tAsg t (gName i)) ∧ ∀ R H P σ env, At X.K R H P σ env → ∀ Q : VK, EPost X W R H P σ (f env) Q → t σ H Q
theorem SEA.of {y : Str} {py spos : Pos} {i : Nat} {e : Expr} {f : EF} (hN : X.N.Nodup) (hi : X.N[i]? = some y) (hx : Loc X.env.scope y) (hf : X.fn y = true ∨ X.env.scope.names.lookup y = some .local) (hs : swapsWith e (some (.Name y py)) spos.line X.env = pure false)
    (s : SE X W e f) : SEA X W y py spos i e f := by
  obtain ⟨t, p, q⟩ := s
  exact ⟨t, ps_set hN hi hx p hs hf, q⟩
theorem SEA.lc {y : Str} {py spos : Pos} {i : Nat} {tge iter elt : Expr} {ifs : List Expr} {scope : Scope} {own : List (Str × Nat)} {fi : IF} {tg : Tg} {fc fe : EF} {pos : Pos} (hc : X.calm = true) (hN : X.N.Nodup) (hi : X.N[i]? = some y) (hyl : X.env.scope.names.lookup y = some .local)
    (hsw : swapsWith (.ListComp elt [⟨tge, iter, ifs, 0⟩] scope pos) (some (.Name y py)) spos.line X.env = pure true) (l : LcOk X W tge iter elt ifs scope own fi tg fc fe) :
    SEA X W y py spos i (.ListComp elt [⟨tge, iter, ifs, 0⟩] scope pos) (fLc fi tg fc fe (own.map (·.2))) := by
  obtain ⟨wi, pi, qi⟩ := l.it
  rcases l.ifs with ⟨rfl, hf⟩ | ⟨c, rfl, hcs⟩
  · exact ⟨_, ps_setLc (wi := wi) (g := tOfG X tg) (tt := tYes) (te := tOf X wF fe) hc hN hi hyl hsw pi l.blk (fun s H C cl fp => (l.tgs s H C cl fp).can) (fun s H C cl fp => pts_nil) (fun s H C cl fp => (l.elt s H C cl fp).can) l.set,
      fun R H P σ env a Q hp => lc_sound l.own qi (tYes_ok hf) a hp⟩
  · exact ⟨_, ps_setLc (wi := wi) (g := tOfG X tg) (tt := tOfT X wF fc) (te := tOf X wF fe) hc hN hi hyl hsw pi l.blk (fun s H C cl fp => (l.tgs s H C cl fp).can) (fun s H C cl fp => pts_one (hcs s H C cl fp).can) (fun s H C cl fp => (l.elt s H C cl fp).can) l.set,
      fun R H P σ env a Q hp => lc_sound l.own qi (fun R H P σ env a Q h => ⟨R, P, env, a, h⟩) a hp⟩
end
end PL

/-! PL12: statements: values, names set, return, raise, if, loops -/
namespace PL
open PySem PySem.Spec PyProof.Rows L2

inductive SR where
  | nx (env : List OV) | ret (x : OV) | exc (c : Str)
abbrev SF := List OV → Option SR
def SPost (X : Cx) (W : WX) (F0 : Hp) (R : Fp) (r : Option SR) (D : Ends) : Prop := match r with
  | some (.nx env') => ∀ σ' H' P', At X.K R H' P' σ' env' → Same F0 (msk H' (Fam.un P')) → D.nx σ' H'
  | some (.ret y) => ∀ v H' B, y.nv = true → Same F0 (msk H' B) → RO X.K H' (msk H' fun q => B q ∨ R q) y v B → D.rt v H'
  | some (.exc c) => ∀ σ' H' C, Same F0 H' → X.mg c = some (.ref C) → W (.ref C) none σ' H'
  | none => False
def SS (X : Cx) (W : WX) (st : Stmt) (f : SF) : Prop := ∃ t : TS, PS X st t ∧ ∀ F0 R H P σ env, At X.K R H P σ env → Same F0 (msk H (Fam.un P)) → ∀ D, SPost X W F0 R (f env) D → t D σ H
def SSs (X : Cx) (W : WX) (st : List Stmt) (f : SF) : Prop := ∃ t : TS, PSs X st t ∧ ∀ F0 R H P σ env, At X.K R H P σ env → Same F0 (msk H (Fam.un P)) → ∀ D, SPost X W F0 R (f env) D → t D σ H
/-- a statement's value -/
def VPost (X : Cx) (W : WX) (F0 : Hp) (R : Fp) (σ : Sl) (r : Option Ou) (Q : VK) : Prop := match r with
  | some (.ok x env') => ∀ v H' P' B, At X.K (fun q => B q ∨ R q) H' P' σ env' → (∀ q, B q → ¬ R q) → Same F0 (msk H' fun q => Fam.un P' q ∨ B q) → RO X.K H' (msk H' (own P' fun q => B q ∨ R q)) x v B → Q v H'
  | some (.exc c) => ∀ H' C, Same F0 H' → X.mg c = some (.ref C) → W (.ref C) none σ H'
  | none => False
def vSound (X : Cx) (W : WX) (t : TE) (f : EF) : Prop := ∀ F0 R H P σ env, At X.K R H P σ env → Same F0 (msk H (Fam.un P)) → ∀ Q : VK, VPost X W F0 R σ (f env) Q → t σ H Q
def SV (X : Cx) (W : WX) (e : Expr) (f : EF) : Prop := ∃ t : TE, PE X e t ∧ vSound X W t f
section
variable {X : Cx} {W : WX} {R B : Fp} {F0 H H' H2 : Hp} {P P' : Nat → Fp} {σ : Sl} {env env' : List OV}
theorem Go.base (a : At X.K R H P σ env) (g : Go X.K R H P σ H' P' env' B) (s : Same F0 (msk H (Fam.un P))) : Same F0 (msk H' fun q => Fam.un P' q ∨ B q) :=
  s.trans (msk_step g.same fun q z => g.fp q z)
theorem vSound.of {t : TE} {f : EF} (q : ∀ R H P σ env, At X.K R H P σ env → ∀ Q : VK, EPost X W R H P σ (f env) Q → t σ H Q) : vSound X W t f := by
  intro F0 R H P σ env a s Q hp
  refine q R H P σ env a Q ?_
  cases e : f env with
  | none => rw [e] at hp; exact hp
  | some r =>
    cases r with
    | exc c => rw [e] at hp; exact fun H' C s' hC => hp H' C ((s.trans msk_same).trans s') hC
    | ok x e1 =>
      rw [e] at hp
      exact fun v H1 P1 B1 g r => hp v H1 P1 B1 (g.at a) (g.bR a) (g.base a s) r
theorem SV.of {e : Expr} {f : EF} (s : SE X W e f) : SV X W e f := let ⟨t, p, q⟩ := s; ⟨t, p, vSound.of q⟩
/-- a call that is given own lists -/
def fCallT (φ : FF) (fa : AF) : EF := fun env => bndA (fa env) fun xs e => if OV.nvs xs then (match φ xs with
    | some (.ret y) => some (.ok y e)
    | some (.exc c) => some (.exc c)
    | none => none) else none
theorem ER.cong' {K : PySem.W.Frag} {F F' : Hp} (er : ER K H F env σ P) (s : Same (msk H B) H') (f : Same F F') (b : ∀ q, B q → ∃ vs, H q = some (.lst vs)) (d : ∀ q, Fam.un P q → ¬ B q) : ER K H' F' env σ P := by
  refine er.cong (fun q vs e => s _ _ (msk_some.mpr ⟨fun z => ?_, e⟩)) f fun q z => ?_
  · obtain ⟨ws, k⟩ := b q z
    rw [k] at e; cases e
  · obtain ⟨ws, k⟩ := er.dom q z
    rw [k]
    exact s _ _ (msk_some.mpr ⟨d q z, k⟩)
theorem SV.call {k n : Nat} {x : Str} {φ : FF} {p pos : Pos} {e : Expr} {es : List Expr} {fa : AF} (F : Fn X k x n φ) (tk : Takes X W) (he : (e :: es).all plainE = true) (sa : SA X W (e :: es) fa)
    (len : ∀ env xs e1, fa env = some (.ok xs e1) → xs.length = n) : SV X W (.Call (.Name x p) (e :: es) [] pos) (fCallT φ fa) := by
  obtain ⟨ta, pa, qa⟩ := sa
  refine ⟨_, pe_fn F tk he pa, fun F0 R H P σ env a s Q hp => qa R H P σ env a _ ?_⟩
  unfold fCallT at hp
  cases ea : fa env with
  | none => rw [ea] at hp; exact hp
  | some r =>
    cases r with
    | exc c => rw [ea] at hp; exact fun H' C s' hC => hp H' C ((s.trans msk_same).trans s') hC
    | ok xs e1 =>
      rw [ea, bndA_ok] at hp
      intro vs H1 P1 B1 g1 r1
      split at hp
      next nx =>
        have hlen : vs.length = n := by rw [← r1.length]; exact len _ _ _ ea
        have a1 := g1.at a
        refine ⟨hlen, xs, B1, own P1 R, nx, fun q b z => z.elim (fun z => g1.dj q z b) fun z => g1.bR a q b z, fun q z => g1.out a q (z.elim .inl fun z => .inr (.inr z)), r1.sub fun q z => ?_, ?_⟩
        · rcases z with z | z | z
          · exact .inr (.inl z)
          · exact .inl z
          · exact .inr (.inr z)
        have s1 := g1.base a s
        cases ef : φ xs with
        | none => rw [ef] at hp; exact hp.elim
        | some re =>
          rw [ef] at hp
          cases re with
          | exc c => exact fun H' C s' hC => hp H' C ((s1.trans (msk_sub fun q z => .inr z)).trans s') hC
          | ret y =>
            refine fun v H' B ny s' r => ?_
            have sm : Same (msk H1 B1) H' := s'.trans msk_same
            have nB : ∀ q o, H1 q = some o → ¬ B1 q → ¬ B q := fun q o e n => (msk_some.mp (s' q o (msk_some.mpr ⟨n, e⟩))).1
            have fr : Same (msk H1 (own P1 fun q => B1 q ∨ R q)) (msk H' (own P1 fun q => B q ∨ R q)) := fun q o e => by
              obtain ⟨k1, k2⟩ := msk_some.mp e
              have n1 : ¬ B1 q := fun z => k1 (.inr (.inl z))
              refine msk_some.mpr ⟨fun z => ?_, sm q o (msk_some.mpr ⟨n1, k2⟩)⟩
              rcases z with z | z | z
              · exact k1 (.inl z)
              · exact nB q o k2 n1 z
              · exact k1 (.inr (.inr z))
            have dR : ∀ q, R q → ¬ B q := fun q z => by
              obtain ⟨ws, e⟩ := a1.rd q (.inr z)
              exact nB q _ e fun b => g1.bR a q b z
            refine hp v H' P1 B ⟨ER.cong' g1.er sm fr g1.bd g1.dj, fun q z => ?_, fun q z w => ?_⟩ (fun q b z => dR q z b) (s1.trans fun q o e => ?_) (r.sub fun q z => ?_)
            · rcases z with z | z
              · exact RO.dom r q z
              · obtain ⟨ws, e⟩ := a1.rd q (.inr z)
                exact ⟨ws, sm q _ (msk_some.mpr ⟨fun b => g1.bR a q b z, e⟩)⟩
            · rcases w with w | w
              · obtain ⟨ws, e⟩ := g1.er.dom q z
                exact nB q _ e (g1.dj q z) w
              · exact a1.dj q z (.inr w)
            · obtain ⟨k1, k2⟩ := msk_some.mp e
              have n1 : ¬ B1 q := fun z => k1 (.inr z)
              exact msk_some.mpr ⟨fun z => z.elim (fun z => k1 (.inl z)) (nB q o k2 n1), sm q o (msk_some.mpr ⟨n1, k2⟩)⟩
            · rcases z with z | z | z
              · exact .inr (.inl z)
              · exact .inl z
              · exact .inr (.inr z)
      next => exact hp.elim

/-! ### a name set -/
def SVA (X : Cx) (W : WX) (y : Str) (py spos : Pos) (i : Nat) (e : Expr) (f : EF) : Prop := ∃ t : TE, PS X (.Assign [.Name y py] e spos) (tAsg t (gName i)) ∧ vSound X W t f
theorem SVA.e {y : Str} {py spos : Pos} {i : Nat} {e : Expr} {f : EF} (s : SEA X W y py spos i e f) : SVA X W y py spos i e f := let ⟨t, p, q⟩ := s; ⟨t, p, vSound.of q⟩
theorem SVA.v {y : Str} {py spos : Pos} {i : Nat} {e : Expr} {f : EF} (hN : X.N.Nodup) (hi : X.N[i]? = some y) (hx : Loc X.env.scope y) (hf : X.fn y = true ∨ X.env.scope.names.lookup y = some .local) (hs : swapsWith e (some (.Name y py)) spos.line X.env = pure false)
    (s : SV X W e f) : SVA X W y py spos i e f := by
  obtain ⟨t, p, q⟩ := s
  exact ⟨t, ps_set hN hi hx p hs hf, q⟩
def sB (r : Option Ou) (k : OV → List OV → Option SR) : Option SR := match r with
  | some (.ok x e) => k x e
  | some (.exc c) => some (.exc c)
  | none => none
@[simp] theorem sB_ok {x : OV} {e : List OV} {k : OV → List OV → Option SR} : sB (some (.ok x e)) k = k x e := rfl
@[simp] theorem sB_exc {c : Str} {k : OV → List OV → Option SR} : sB (some (.exc c)) k = some (.exc c) := rfl
@[simp] theorem sB_none {k : OV → List OV → Option SR} : sB none k = none := rfl
/-- a value, then a statement's end -/
theorem sB_post {t : TE} {f : EF} {k : OV → List OV → Option SR} (q : vSound X W t f) (a : At X.K R H P σ env) (s : Same F0 (msk H (Fam.un P))) {D : Ends} (hp : SPost X W F0 R (sB (f env) k) D) {Q : VK}
    (h : ∀ x e1, f env = some (.ok x e1) → SPost X W F0 R (k x e1) D → ∀ v H' P' B, At X.K (fun q => B q ∨ R q) H' P' σ e1 → (∀ q, B q → ¬ R q) → Same F0 (msk H' fun q => Fam.un P' q ∨ B q) → RO X.K H' (msk H' (own P' fun q => B q ∨ R q)) x v B → Q v H') : t σ H Q := by
  refine q F0 R H P σ env a s Q ?_
  cases e : f env with
  | none => rw [e] at hp; exact hp
  | some r =>
    cases r with
    | exc c => rw [e] at hp; exact fun H' C s' hC => hp σ H' C s' hC
    | ok x e1 => rw [e, sB_ok] at hp; exact h x e1 e hp
def fSet (i : Nat) (f : EF) : SF := fun env => sB (f env) fun x e => if x.nv && decide (i < e.length) then some (.nx (e.set i x)) else none
/-- a slot is given a value with its lists -/
theorem At.give (a : At X.K (fun q => B q ∨ R q) H P σ env) (dR : ∀ q, B q → ¬ R q) (s : Same F0 (msk H fun q => Fam.un P q ∨ B q)) {i : Nat} {x : OV} {v : V} (hi : i < env.length) (nx : x.nv = true) (r : RO X.K H (msk H (own P fun q => B q ∨ R q)) x v B) :
    At X.K R H (setF P i B) (σ.set i (some v)) (env.set i x) ∧ Same F0 (msk H (Fam.un (setF P i B))) := by
  have sub : ∀ q, Fam.un (setF P i B) q → Fam.un P q ∨ B q := fun q z => by
    rcases un_set z with z | ⟨j, _, z⟩
    · exact .inr z
    · exact .inl ⟨j, z⟩
  refine ⟨⟨(a.er.set hi nx (OR.of_ro r) fun j q _ z b => a.dj q ⟨j, z⟩ (.inl b)).mono (Same.refl _) (msk_sub fun q z => ?_), fun q z => a.rd q (.inr z), fun q z w => ?_⟩, s.trans (msk_sub fun q z => sub q z)⟩
  · rcases z with z | z
    · exact (sub q z).imp id .inl
    · exact .inr (.inr z)
  · rcases sub q z with z | z
    · exact a.dj q z (.inr w)
    · exact dR q z w
theorem SS.set {y : Str} {py spos : Pos} {i : Nat} {e : Expr} {f : EF} (s : SVA X W y py spos i e f) : SS X W (.Assign [.Name y py] e spos) (fSet i f) := by
  obtain ⟨t, p, q⟩ := s
  refine ⟨_, p, fun F0 R H P σ env a s D hp => sB_post q a s hp fun x e1 _ hp v H' P' B a' dR s' r => ?_⟩
  split at hp
  next h =>
    simp only [Bool.and_eq_true, decide_eq_true_eq] at h
    obtain ⟨a2, s2⟩ := a'.give dR s' h.2 h.1 r
    exact hp _ H' _ a2 s2
  next => exact hp.elim

/-! ### return, raise, a value dropped -/
def fRet (f : EF) : SF := fun env => sB (f env) fun x _ => if x.nv then some (.ret x) else none
theorem SS.ret {e : Expr} {f : EF} {pos : Pos} (sv : SV X W e f) : SS X W (.Return (some e) pos) (fRet f) := by
  obtain ⟨t, p, q⟩ := sv
  refine ⟨_, ps_ret p, fun F0 R H P σ env a s D hp => sB_post q a s hp fun x e1 _ hp v H' P' B a' dR s' r => ?_⟩
  split at hp
  next h => exact hp v H' B h (s'.trans (msk_sub fun q z => .inr z)) (r.sub fun q z => .inr z)
  next => exact hp.elim
def fDrop (f : EF) : SF := fun env => sB (f env) fun _ e => some (.nx e)
theorem SS.drop {e : Expr} {f : EF} {pos : Pos} (hs : swapsWith e none pos.line X.env = pure false) (sv : SV X W e f) : SS X W (.Expr e pos) (fDrop f) := by
  obtain ⟨t, p, q⟩ := sv
  refine ⟨_, ps_expr p hs, fun F0 R H P σ env a s D hp => sB_post q a s hp fun x e1 _ hp v H' P' B a' dR s' r => ?_⟩
  exact hp σ H' P' ⟨a'.er.mono (Same.refl _) (msk_sub fun q z => z.imp id .inr), fun q z => a'.rd q (.inr z), fun q z w => a'.dj q z (.inr w)⟩ (s'.trans (msk_sub fun q z => .inl z))
/-- an own exception class that may be raised by its name -/
structure Ex (X : Cx) (x : Str) : Prop where
  gl : Gl X x
  db : (x == ("__debug__" : Str)) = false
  at_ : ∃ C bmB B newId initId, ExcBaseFacts B newId initId bmB ∧ PySem.W.excIn X.K C bmB newId = true ∧ X.mg x = some (.ref C) ∧ PySem.W.keepIn X.K (.ref C) = true ∧ Raises X (.ref C)
theorem SS.raise {x m : Str} {j : Nat} {p p2 p3 pos : Pos} (hc : X.calm = true) (tk : Takes X W) (ex : Ex X x) : SS X W (.Raise (some (.Call (.Name x p) [.Constant (.str m) j p2] [] p3)) none pos) (fun _ => some (.exc x)) := by
  obtain ⟨C, bmB, B, newId, initId, F, q, gC, kC, r⟩ := ex.at_
  refine ⟨_, ps_raise hc tk (pmk_own F q gC kC r ex.gl ex.db), fun F0 R H P σ env a s D hp => ?_⟩
  exact hp σ H C (s.trans msk_same) gC

/-! ### if -/
def VBPost (X : Cx) (W : WX) (F0 : Hp) (R : Fp) (σ : Sl) (r : Option Ou) (Q : Bool → Hp → Prop) : Prop := match r with
  | some (.ok x env') => ∃ b, x = .fr (.bl b) ∧ ∀ H' P', At X.K R H' P' σ env' → Same F0 (msk H' (Fam.un P')) → Q b H'
  | some (.exc c) => ∀ H' C, Same F0 H' → X.mg c = some (.ref C) → W (.ref C) none σ H'
  | none => False
/-- a test of a statement -/
def SVt (X : Cx) (W : WX) (e : Expr) (f : EF) : Prop := ∃ t : TT, PT X e t ∧ ∀ F0 R H P σ env, At X.K R H P σ env → Same F0 (msk H (Fam.un P)) → ∀ Q : Bool → Hp → Prop, VBPost X W F0 R σ (f env) Q → t σ H Q
theorem SVt.of {e : Expr} {f : EF} (s : STe X W e f) : SVt X W e f := by
  obtain ⟨t, p, q⟩ := s
  refine ⟨t, p, fun F0 R H P σ env a s Q hp => q R H P σ env a Q ?_⟩
  cases e : f env with
  | none => rw [e] at hp; exact hp
  | some r =>
    cases r with
    | exc c => rw [e] at hp; exact fun H' C s' hC => hp H' C ((s.trans msk_same).trans s') hC
    | ok x e1 =>
      rw [e] at hp
      obtain ⟨b, h1, h2⟩ := hp
      exact ⟨b, h1, fun H' P' g => h2 H' P' (g.at0 a) ((g.base a s).trans (msk_sub fun q z => .inl z))⟩
theorem SVt.val {e : Expr} {f : EF} (he : ∀ whole, isTrue e X.env whole = (do let v ← whole; standAt e.pos; holding [v] (truthy v))) (s : SV X W e f) : SVt X W e f := by
  obtain ⟨t, p, q⟩ := s
  refine ⟨_, pt_val p he, fun F0 R H P σ env a s Q hp => q F0 R H P σ env a s _ ?_⟩
  cases e : f env with
  | none => rw [e] at hp; exact hp
  | some r =>
    cases r with
    | exc c => rw [e] at hp; exact hp
    | ok x e1 =>
      rw [e] at hp
      obtain ⟨b, rfl, h2⟩ := hp
      intro v H' P' B a' dR s' r
      simp only [RO, RD] at r
      exact ⟨b, r.1, h2 H' P' ⟨a'.er.mono (Same.refl _) (msk_sub fun q z => z.imp id .inr), fun q z => a'.rd q (.inr z), fun q z w => a'.dj q z (.inr w)⟩ (s'.trans (msk_sub fun q z => .inl z))⟩
theorem SVt.not {e : Expr} {f : EF} {pos : Pos} (s : SVt X W e f) : SVt X W (.UnaryOp .Not e pos) (fNot f) := by
  obtain ⟨t, p, q⟩ := s
  refine ⟨_, pt_not p, fun F0 R H P σ env a s Q hp => q F0 R H P σ env a s _ ?_⟩
  refine fNot_inv (f := f) (env := env) (fun e => ?_) (fun c e e' => ?_) (fun b e1 e e' => ?_)
  · rw [e] at hp; exact hp.elim
  · rw [e'] at hp; rw [e]; exact hp
  · rw [e'] at hp; rw [e]
    obtain ⟨b', h1, h2⟩ := hp
    simp only [OV.fr.injEq, D.bl.injEq] at h1
    subst h1
    exact ⟨b, rfl, h2⟩
def fIfS (fc : EF) (fa fb : SF) : SF := fun env => sB (fc env) fun x e => match x with
  | .fr (.bl true) => fa e
  | .fr (.bl false) => fb e
  | _ => none
theorem SS.if {c : Expr} {a b : List Stmt} {fc : EF} {fa fb : SF} {pos : Pos} (sc : SVt X W c fc) (sa : SSs X W a fa) (sb : SSs X W b fb) : SS X W (.If c a b pos) (fIfS fc fa fb) := by
  obtain ⟨tc, pc, qc⟩ := sc
  obtain ⟨ta, pa, qa⟩ := sa
  obtain ⟨tb, pb, qb⟩ := sb
  refine ⟨_, ps_if pc pa pb, fun F0 R H P σ env a s D hp => qc F0 R H P σ env a s _ ?_⟩
  unfold fIfS at hp
  cases e : fc env with
  | none => rw [e] at hp; exact hp
  | some r =>
    cases r with
    | exc c => rw [e] at hp; exact fun H' C s' hC => hp σ H' C s' hC
    | ok x e1 =>
      rw [e, sB_ok] at hp
      cases x <;> try exact hp.elim
      rename_i d
      cases d <;> try exact hp.elim
      rename_i b
      refine ⟨b, rfl, fun H' P' a' s' => ?_⟩
      cases b with
      | true => exact qa F0 R H' P' σ e1 a' s' D hp
      | false => exact qb F0 R H' P' σ e1 a' s' D hp

/-! ### one after another -/
def fNil : SF := fun env => some (.nx env)
def fSeq (f : SF) (g : SF) : SF := fun env => match f env with
  | some (.nx e) => g e
  | r => r
theorem SSs.nil : SSs X W [] fNil := ⟨_, pss_nil, fun F0 R H P σ env a s D hp => hp σ H P a s⟩
theorem SSs.cons {st : Stmt} {sts : List Stmt} {f g : SF} (s1 : SS X W st f) (s2 : SSs X W sts g) : SSs X W (st :: sts) (fSeq f g) := by
  obtain ⟨t, p, q⟩ := s1
  obtain ⟨t2, p2, q2⟩ := s2
  refine ⟨_, pss_cons p p2, fun F0 R H P σ env a s D hp => ?_⟩
  refine q F0 R H P σ env a s _ ?_
  unfold fSeq at hp
  cases e : f env with
  | none => rw [e] at hp; exact hp
  | some r =>
    cases r with
    | nx e1 => rw [e] at hp; exact fun σ' H' P' a' s' => q2 F0 R H' P' σ' e1 a' s' D hp
    | ret y => rw [e] at hp; exact hp
    | exc c => rw [e] at hp; exact hp
theorem SS.pass {pos : Pos} : SS X W (.Pass pos) fNil := ⟨_, ps_pass, fun F0 R H P σ env a s D hp => hp σ H P a s⟩

/-! ### loops -/
def forRun (tg : Tg) (fb : SF) : List D → List OV → Option SR
  | [], e => some (.nx e)
  | d :: ds, e => (tg.bind d e).bind fun e2 => match fb e2 with
    | some (.nx e3) => forRun tg fb ds e3
    | r => r
def fFor (fi : IF) (tg : Tg) (fb : SF) : SF := fun env => match fi env with
  | some (.ok ds e) => forRun tg fb ds e
  | some (.exc c) => some (.exc c)
  | none => none
theorem SPost.weak {F1 : Hp} {r : Option SR} {D : Ends} (s : Same F0 F1) (hp : SPost X W F0 R r D) : SPost X W F1 R r D := by
  cases r with
  | none => exact hp
  | some r =>
    cases r with
    | nx e => exact fun σ' H' P' a s' => hp σ' H' P' a (s.trans s')
    | ret y => exact fun v H' B n s' r => hp v H' B n (s.trans s') r
    | exc c => exact fun σ' H' C s' hC => hp σ' H' C (s.trans s') hC
theorem SS.for {tge iter : Expr} {body : List Stmt} {fi : IF} {tg : Tg} {fb : SF} {pos : Pos} (hp : PassesOwn (model X.prog X.w) X.A X.env X.xe) (hc : X.calm = true) (si : SI X W tge iter fi) (sg : SG X tge tg) (sb : SSs X W body fb)
    (hs : ∀ x, foldedSetIterable iter X.env x = pure x) : SS X W (.For tge iter body [] pos) (fFor fi tg fb) := by
  obtain ⟨wi, pi, qi⟩ := si
  obtain ⟨tb, pb, qb⟩ := sb
  obtain ⟨g, pg, qg⟩ := sg
  refine ⟨_, ps_for hp hc pi pg pb hs, fun F0 R H P σ env a s D hp => qi R H P σ env a _ ?_⟩
  unfold fFor at hp
  cases ei : fi env with
  | none => rw [ei] at hp; exact hp.elim
  | some r =>
    cases r with
    | exc c => rw [ei] at hp; exact fun H' C s' hC => hp σ H' C ((s.trans msk_same).trans s') hC
    | ok ds e1 =>
      rw [ei] at hp
      simp only at hp
      intro J H1 P1 g1 wk
      have a1 := g1.at0 a
      have s1 : Same F0 (msk H1 (Fam.un P1)) := (g1.base a s).trans (msk_sub fun q z => .inl z)
      have hp1 := SPost.weak s1 hp
      refine ⟨fun i m σ H => m = ds.length - i ∧ i ≤ ds.length ∧ ∃ P e, At X.K R H P σ e ∧ Same (msk H1 (Fam.un P1)) (msk H (Fam.un P)) ∧ SPost X W (msk H1 (Fam.un P1)) R (forRun tg fb (ds.drop i) e) D,
        ⟨ds.length, by omega, Nat.zero_le _, P1, e1, a1, Same.refl _, by simpa using hp1⟩, ?_⟩
      rintro i m σ H ⟨rfl, hi, P2, e, a2, s2, post⟩
      have fr : Same (msk H1 (own P1 R)) (msk H (own P2 R)) := fun q o k => by
        obtain ⟨k1, k2⟩ := msk_some.mp k
        obtain ⟨k3, k4⟩ := msk_some.mp (s2 q o (msk_some.mpr ⟨fun z => k1 (.inl z), k2⟩))
        exact msk_some.mpr ⟨fun z => z.elim k3 fun z => k1 (.inr z), k4⟩
      by_cases hlt : i < ds.length
      · have hd : ds[i]? = some ds[i] := by simp [hlt]
        have cs : ds.drop i = ds[i] :: ds.drop (i + 1) := by rw [List.drop_eq_getElem_cons hlt]
        rw [cs] at post
        simp only [forRun] at post
        obtain ⟨go, yl⟩ := wk.go H (own P2 R) i ds[i] fr hd
        refine .inr ⟨go, fun σ H => ∃ P e, At X.K R H P σ e ∧ Same (msk H1 (Fam.un P1)) (msk H (Fam.un P)) ∧ SPost X W (msk H1 (Fam.un P1)) R (forRun tg fb (ds.drop (i + 1)) e) D, fun σ' H' h => ⟨_, by omega, rfl, hlt, h⟩, fun x H' hy => ?_⟩
        obtain ⟨s', rd⟩ := yl x H' (fun q z e => by obtain ⟨ws, k⟩ := a2.out q z; rw [e] at k; cases k) hy
        have a3 := a2.grow s'
        cases eb : tg.bind ds[i] e with
        | none => rw [eb] at post; exact post.elim
        | some e2 =>
          rw [eb, Option.bind_some] at post
          refine qg H' (msk H' (own P2 R)) P2 σ e ds[i] x e2 msk_same a3.er rd eb _ fun σ2 P3 er3 hsub _ => ?_
          have a4 : At X.K R H' P3 σ2 e2 := ⟨er3.mono (Same.refl _) (msk_sub fun q z => z.imp (hsub q) id), a3.rd, fun q z => a3.dj q (hsub q z)⟩
          have s4 : Same (msk H1 (Fam.un P1)) (msk H' (Fam.un P3)) := s2.trans (msk_step s' fun q z => .inl (hsub q z))
          refine qb (msk H1 (Fam.un P1)) R H' P3 σ2 e2 a4 s4 _ ?_
          cases ef : fb e2 with
          | none => rw [ef] at post; exact post.elim
          | some r =>
            cases r with
            | nx e3 => rw [ef] at post; exact fun σ' H' P' a' s' => ⟨P', e3, a', s', post⟩
            | ret y => rw [ef] at post; exact post
            | exc c => rw [ef] at post; exact post
      · have e' : i = ds.length := by omega
        subst e'
        rw [List.drop_length] at post
        exact .inl ⟨wk.stop H _ fr, post σ H P2 a2 s2⟩
def whRun (fc : EF) (fb : SF) : Nat → List OV → Option SR
  | 0, _ => none
  | n + 1, e => sB (fc e) fun x e1 => match x with
    | .fr (.bl true) => (match fb e1 with
      | some (.nx e2) => whRun fc fb n e2
      | r => r)
    | .fr (.bl false) => some (.nx e1)
    | _ => none
def fWhile (μ : List OV → Nat) (fc : EF) (fb : SF) : SF := fun env => whRun fc fb (μ env) env
theorem SS.while {c : Expr} {body : List Stmt} {fc : EF} {fb : SF} {pos : Pos} (μ : List OV → Nat) (hp : PassesOwn (model X.prog X.w) X.A X.env X.xe) (sc : SVt X W c fc) (sb : SSs X W body fb) : SS X W (.While c body [] pos) (fWhile μ fc fb) := by
  obtain ⟨tc, pc, qc⟩ := sc
  obtain ⟨tb, pb, qb⟩ := sb
  refine ⟨_, ps_while hp pc pb, fun F0 R H P σ env a s D hp => ?_⟩
  refine ⟨fun m σ H => ∃ P e, At X.K R H P σ e ∧ Same F0 (msk H (Fam.un P)) ∧ SPost X W F0 R (whRun fc fb m e) D, ⟨μ env, P, env, a, s, hp⟩, ?_⟩
  rintro m σ H ⟨P, e, a, s, post⟩
  cases m with
  | zero => exact post.elim
  | succ m =>
    simp only [whRun] at post
    refine qc F0 R H P σ e a s _ ?_
    cases ec : fc e with
    | none => rw [ec] at post; exact post
    | some r =>
      cases r with
      | exc c => rw [ec] at post; exact fun H' C s' hC => post σ H' C s' hC
      | ok x e1 =>
        rw [ec, sB_ok] at post
        cases x <;> try exact post.elim
        rename_i d
        cases d <;> try exact post.elim
        rename_i b
        refine ⟨b, rfl, fun H' P' a' s' => ?_⟩
        cases b with
        | false => exact post σ H' P' a' s'
        | true =>
          refine ⟨fun σ H => ∃ P e, At X.K R H P σ e ∧ Same F0 (msk H (Fam.un P)) ∧ SPost X W F0 R (whRun fc fb m e) D, fun σ' H' h => ⟨m, Nat.lt_succ_self m, h⟩, ?_⟩
          refine qb F0 R H' P' σ e1 a' s' _ ?_
          cases ef : fb e1 with
          | none => rw [ef] at post; exact post.elim
          | some r =>
            cases r with
            | nx e3 => rw [ef] at post; exact fun σ' H' P' a' s' => ⟨P', e3, a', s', post⟩
            | ret y => rw [ef] at post; exact post
            | exc c => rw [ef] at post; exact post
end
end PL

/-! PL13: what is changed within a name's tree -/
namespace PL
open PySem PySem.Spec PyProof.Rows L2

def onL (g : List OV → Option (List OV)) (s : OV) : Option OV := match s with
  | .ol xs => (g xs).map .ol
  | _ => none
section
variable {X : Cx} {W : WX} {R B : Fp} {F0 H H' H2 : Hp} {P P' : Nat → Fp} {σ : Sl} {env env' : List OV}
/-- a list in the tree at slot i, and the situation when its items are others -/
theorem At.mut (a : At X.K (fun q => B q ∨ R q) H P σ env) (dR : ∀ q, B q → ¬ R q) (s : Same F0 (msk H fun q => Fam.un P q ∨ B q)) {i : Nat} {ks : List Int} {x x' : OV} {g : List OV → Option (List OV)} (ex : env[i]? = some x) (em : x.mod ks (onL g) = some x') :
    ∃ (v : V) (p : Addr) (vs : List V) (xs xs' : List OV) (A0 : Fp), σ[i]? = some (some v) ∧ HPath H v ks (.ref p) ∧ H p = some (.lst vs) ∧ g xs = some xs' ∧ x.get ks = some (.ol xs) ∧ OV.nvs xs = true ∧ ROs X.K H (msk H (own P fun q => B q ∨ R q)) xs vs A0 ∧ (∀ q, A0 q → Fam.un P q) ∧
      ∀ (vs' : List V) (A1 B' : Fp), OV.nvs xs' = true → ROs X.K H (msk H (own P fun q => B q ∨ R q)) xs' vs' A1 → (∀ q, A1 q → A0 q ∨ B q) → (∀ q, B' q → A0 q ∨ B q) → (∀ q, A1 q → ¬ B' q) →
        ∃ P' : Nat → Fp, At X.K (fun q => B' q ∨ R q) (upd H p (.lst vs')) P' σ (env.set i x') ∧ (∀ q, B' q → ¬ R q) ∧ Same F0 (msk (upd H p (.lst vs')) fun q => Fam.un P' q ∨ B' q) ∧ (∀ q, B' q → q ≠ p) ∧
          Same (msk H (own P fun q => B q ∨ R q)) (msk (upd H p (.lst vs')) (own P' fun q => B' q ∨ R q)) := by
  obtain ⟨nx, o, e1, e2⟩ := a.er.at_ i x ex
  have hx : x ≠ .hole := by
    rintro rfl
    cases ks <;> simp [OV.mod, onL] at em
  obtain ⟨v, rfl, r⟩ := e2.ro hx
  obtain ⟨s0, s', w, Bs, C, g0, gn, g1, g2, g3, g4, g5, g6⟩ := mod_ok nx r em
  cases s0 <;> simp only [onL, reduceCtorEq, Option.map_eq_some_iff] at g1
  rename_i xs
  obtain ⟨xs', g1, rfl⟩ := g1
  simp only [OV.nv] at gn
  simp only [RO] at g3
  obtain ⟨p, vs, A0, rfl, h2, h3, h4, h5⟩ := g3
  have uP : ∀ q, P i q → Fam.un P q := fun q z => ⟨i, z⟩
  have inA : ∀ q, A0 q → P i q := fun q z => (g5 q).mpr (.inl ((h5 q).mpr (.inr z)))
  have inp : P i p := (g5 p).mpr (.inl ((h5 p).mpr (.inl rfl)))
  have inC : ∀ q, C q → P i q := fun q z => (g5 q).mpr (.inr z)
  refine ⟨v, p, vs, xs, xs', A0, e1, g2, h2, g1, g0, gn, h3, fun q z => uP q (inA q z), fun vs' A1 B' n' r' h6 h7 h8 => ?_⟩
  have nB : ∀ q, P i q → ¬ B q := fun q z b => a.dj q (uP q z) (.inl b)
  have ne1 : ∀ q, A1 q → q ≠ p := fun q z e => by
    subst e
    rcases h6 q z with z | z
    · exact h4 z
    · exact nB q inp z
  have neB : ∀ q, B' q → q ≠ p := fun q z e => by
    subst e
    rcases h7 q z with z | z
    · exact h4 z
    · exact nB q inp z
  have neC : ∀ q, C q → q ≠ p := fun q z e => by subst e; exact g4 q ((h5 q).mpr (.inl rfl)) z
  have dAC : ∀ q, A1 q → ¬ C q := fun q z c => by
    rcases h6 q z with z | z
    · exact g4 q ((h5 q).mpr (.inr z)) c
    · exact nB q (inC q c) z
  have P'sub : ∀ q, Fam.un (setF P i fun q => (q = p ∨ A1 q) ∨ C q) q → Fam.un P q ∨ B q := fun q z => by
    rcases un_set z with z | ⟨j, _, z⟩
    · rcases z with (z | z) | z
      · subst z; exact .inl (uP q inp)
      · exact (h6 q z).imp (fun z => uP q (inA q z)) id
      · exact .inl (uP q (inC q z))
    · exact .inl ⟨j, z⟩
  have Bsub : ∀ q, B' q → Fam.un P q ∨ B q := fun q z => (h7 q z).imp (fun z => uP q (inA q z)) id
  have osub : ∀ q, own (setF P i fun q => (q = p ∨ A1 q) ∨ C q) (fun q => B' q ∨ R q) q → own P (fun q => B q ∨ R q) q := fun q z => by
    rcases z with z | z | z
    · exact (P'sub q z).imp id .inl
    · exact (Bsub q z).imp id .inl
    · exact .inr (.inr z)
  have fr : Same (msk H (own P fun q => B q ∨ R q)) (msk (upd H p (.lst vs')) (own (setF P i fun q => (q = p ∨ A1 q) ∨ C q) fun q => B' q ∨ R q)) := fun q o k => by
    obtain ⟨k1, k2⟩ := msk_some.mp k
    refine msk_some.mpr ⟨fun z => k1 (osub q z), ?_⟩
    rw [upd_ne (fun e => k1 (.inl (by subst e; exact uP q inp)))]
    exact k2
  have tups : ∀ q us, H q = some (.tup us) → upd H p (.lst vs') q = some (.tup us) := fun q us k => by
    rw [upd_ne (fun z => by subst z; rw [h2] at k; cases k)]; exact k
  have hi := env_lt ex
  have inner : RO X.K (upd H p (.lst vs')) (msk (upd H p (.lst vs')) (own (setF P i fun q => (q = p ∨ A1 q) ∨ C q) fun q => B' q ∨ R q)) (.ol xs') (.ref p) fun q => q = p ∨ A1 q := by
    simp only [RO]
    exact ⟨p, vs', A1, rfl, upd_same, ROs.cong tups fr (fun q z => by rw [upd_ne (ne1 q z)]) n' r', fun z => ne1 p z rfl, fun q => Iff.rfl⟩
  obtain ⟨back, nback⟩ := g6 tups fr (fun q z => by rw [upd_ne (neC q z)]) inner fun q z c => z.elim (fun z => neC q c z) fun z => dAC q z c
  have er0 : ER X.K H (msk H (own P fun q => B q ∨ R q)) (env.set i .hole) σ (setF P i Fp.emp) := a.er.put hi rfl e1 OR.hole fun _ _ _ _ z => z
  have er1 : ER X.K (upd H p (.lst vs')) (msk (upd H p (.lst vs')) (own (setF P i fun q => (q = p ∨ A1 q) ∨ C q) fun q => B' q ∨ R q)) (env.set i .hole) σ (setF P i Fp.emp) := er0.cong tups fr fun q z => by
    rcases un_set z with z | ⟨j, hj, z⟩
    · exact z.elim
    · rw [upd_ne (fun e => by subst e; exact hj (a.er.fam.apart j i q z inp))]
  have er2 := er1.put (i := i) (y := x') (o := some v) (B := fun q => (q = p ∨ A1 q) ∨ C q) (by simpa using hi) (nback n') e1 (OR.of_ro back) fun j q hj z w => by
    rw [setF_ne hj] at z
    rcases w with (w | w) | w
    · subst w; exact hj (a.er.fam.apart j i q z inp)
    · rcases h6 q w with w | w
      · exact hj (a.er.fam.apart j i q z (inA q w))
      · exact a.dj q ⟨j, z⟩ (.inl w)
    · exact hj (a.er.fam.apart j i q z (inC q w))
  have eP : setF (setF P i Fp.emp) i (fun q => (q = p ∨ A1 q) ∨ C q) = setF P i fun q => (q = p ∨ A1 q) ∨ C q := by
    funext j; unfold setF; split <;> rfl
  rw [List.set_set, eP] at er2
  have dB'R : ∀ q, B' q → ¬ R q := fun q z w => by
    rcases h7 q z with z | z
    · exact a.dj q (uP q (inA q z)) (.inr w)
    · exact dR q z w
  refine ⟨_, ⟨er2, fun q z => ?_, fun q z w => ?_⟩, dB'R, s.trans fun q o k => ?_, neB, fr⟩
  · rcases z with z | z
    · rw [upd_ne (neB q z)]
      rcases Bsub q z with w | w
      · exact a.er.dom q w
      · exact a.rd q (.inl w)
    · rw [upd_ne (fun e => by subst e; exact a.dj q (uP q inp) (.inr z))]
      exact a.rd q (.inr z)
  · have own' : ∀ q, Fam.un (setF P i fun q => (q = p ∨ A1 q) ∨ C q) q → B' q → False := fun q z w => by
      rcases un_set z with z | ⟨j, hj, z⟩
      · rcases z with (z | z) | z
        · exact neB q w z
        · exact h8 q z w
        · rcases h7 q w with w | w
          · exact g4 q ((h5 q).mpr (.inr w)) z
          · exact nB q (inC q z) w
      · rcases h7 q w with w | w
        · exact hj (a.er.fam.apart j i q z (inA q w))
        · exact a.dj q ⟨j, z⟩ (.inl w)
    rcases w with w | w
    · exact own' q z w
    · rcases P'sub q z with z | z
      · exact a.dj q z (.inr w)
      · exact dR q z w
  · obtain ⟨k1, k2⟩ := msk_some.mp k
    refine msk_some.mpr ⟨fun z => k1 (z.elim (fun z => P'sub q z) fun z => Bsub q z), ?_⟩
    rw [upd_ne (fun e => k1 (.inl (by subst e; exact uP q inp)))]
    exact k2

/-! ### o[k] = e -/
def fSetIx (i : Nat) (gp : List OV → Option (List Int)) (fk fe : EF) : SF := fun env => sB (fe env) fun y e => if y.nv then (gp e).bind fun ks => (fIdx fk e).bind fun k => (e[i]?).bind fun x =>
  (x.mod ks (onL fun xs => (ixN xs.length k).map fun j => xs.set j y)).map fun x' => .nx (e.set i x') else none
theorem ROs.setIt {K : PySem.W.Frag} {H F : Hp} {xs : List OV} {vs : List V} {A B : Fp} {y : OV} {w : V} {j : Nat} (h : ROs K H F xs vs A) (hj : j < xs.length) (hy : RO K H F y w B) (d : ∀ q, A q → ¬ B q) :
    ∃ A1, ROs K H F (xs.set j y) (vs.set j w) A1 ∧ ∀ q, A1 q → A q ∨ B q := by
  obtain ⟨P, k1, k2⟩ := RI.of h
  have hl : j < vs.length := by rw [k1.len]; exact hj
  have k3 : RI K H F (xs.set j y) (vs.set j w) (setF P j B) := by
    refine ⟨⟨fun a b q ha hb => ?_, fun a q ha => ?_⟩, by simp [k1.len], fun a x e => ?_⟩
    · by_cases ea : a = j
      · by_cases eb : b = j
        · rw [ea, eb]
        · subst ea; rw [setF_same] at ha; rw [setF_ne eb] at hb; exact absurd ha (d q ((k2 q).mpr ⟨b, hb⟩))
      · by_cases eb : b = j
        · subst eb; rw [setF_same] at hb; rw [setF_ne ea] at ha; exact absurd hb (d q ((k2 q).mpr ⟨a, ha⟩))
        · rw [setF_ne ea] at ha; rw [setF_ne eb] at hb; exact k1.fam.apart a b q ha hb
    · rw [List.length_set]
      by_cases ea : a = j
      · rw [ea]; exact hj
      · rw [setF_ne ea] at ha; exact k1.fam.lt a q ha
    · by_cases ea : a = j
      · subst ea
        rw [List.getElem?_set_self hj] at e
        have e' := Option.some.inj e
        subst e'
        exact ⟨w, by rw [List.getElem?_set_self hl], by rw [setF_same]; exact hy⟩
      · rw [List.getElem?_set_ne (Ne.symm ea)] at e
        obtain ⟨v, e1, e2⟩ := k1.at_ a x e
        exact ⟨v, by rw [List.getElem?_set_ne (Ne.symm ea)]; exact e1, by rw [setF_ne ea]; exact e2⟩
  refine ⟨_, k3.to, fun q z => ?_⟩
  rcases un_set z with z | ⟨a, _, z⟩
  · exact .inr z
  · exact .inl ((k2 q).mpr ⟨a, z⟩)
theorem nvs_set {xs : List OV} {j : Nat} {y : OV} (h : OV.nvs xs = true) (hy : y.nv = true) : OV.nvs (xs.set j y) = true := set_nv h hy
theorem SS.setIx {i : Nat} {o k e : Expr} {gp : List OV → Option (List Int)} {fk fe : EF} {pos spos : Pos} (hk : plainE k = true) (hs : swapsWithSole [.Subscript o k pos] e spos.line X.env = pure false) (so : SPth X i o gp) (sk : SE X W k fk) (sv : SV X W e fe) :
    SS X W (.Assign [.Subscript o k pos] e spos) (fSetIx i gp fk fe) := by
  obtain ⟨t, p, q⟩ := sv
  obtain ⟨to, po, qo⟩ := so
  obtain ⟨tk, pk, qk⟩ := sk
  refine ⟨_, ps_asg p (pg_sub po pk set_list (fun v => by cases k <;> first | rfl | (simp [plainE] at hk))) hs (by rfl) (by rfl), fun F0 R H P σ env a s D hp => sB_post q a s hp fun y e1 _ hp v H1 P1 B1 a1 dR s1 r1 => ?_⟩
  split at hp
  next ny =>
    cases eg : gp e1 with
    | none => rw [eg] at hp; exact hp.elim
    | some ks =>
      cases ek : fIdx fk e1 with
      | none => rw [eg, Option.bind_some, ek] at hp; exact hp.elim
      | some k' =>
        cases ex : e1[i]? with
        | none => rw [eg, Option.bind_some, ek, Option.bind_some, ex] at hp; exact hp.elim
        | some x =>
          rw [eg, Option.bind_some, ek, Option.bind_some, ex, Option.bind_some] at hp
          cases em : x.mod ks (onL fun xs => (ixN xs.length k').map fun j => xs.set j y) with
          | none => rw [em] at hp; exact hp.elim
          | some x' =>
            rw [em, Option.map_some] at hp
            -- the place, as it stands behind the value
            obtain ⟨v0, p0, vs, xs, xs', A0, m1, m2, m3, m4, mg, m5, m6, m7, m8⟩ := a1.mut dR s1 ex em
            refine qo _ H1 P1 σ e1 a1 ks v0 (.ref p0) eg m1 m2 _ fun H2 s2 => ?_
            refine SE.idx (b := k) qk (a1.grow s2) ek fun H3 s3 => ?_
            have s23 := s2.trans s3
            have a3 := (a1.grow s2).grow s3
            have f23 : Same (msk H1 (own P1 fun q => B1 q ∨ R q)) (msk H3 (own P1 fun q => B1 q ∨ R q)) := msk_step s23 fun q z => .inl z
            have sb3 : Same F0 (msk H3 fun q => Fam.un P1 q ∨ B1 q) := s1.trans (msk_step s23 fun q z => .inl z)
            obtain ⟨v0', p0', vs', xs2, xs2', A0', n1, n2, n3, n4, ng, n5, n6, n7, n8⟩ := a3.mut dR sb3 ex em
            rw [m1] at n1
            cases n1
            have := HPath.eq (m2.mono s23) n2
            cases this
            simp only [Option.map_eq_some_iff] at n4
            obtain ⟨j, n4, rfl⟩ := n4
            have hj : j < xs2.length := ixN_lt n4
            have hl := n6.length
            refine ⟨p0, vs', k', j, rfl, rfl, n3, by rw [← hl]; exact n4, ?_⟩
            have r3 := r1.mono s23 f23
            obtain ⟨A1, w1, w2⟩ := ROs.setIt n6 hj r3 fun q z b => a3.dj q (n7 q z) (.inl b)
            obtain ⟨P', w3, w4, w5, w6, w7⟩ := n8 _ A1 Fp.emp (nvs_set n5 ny) w1 w2 (fun q z => z.elim) fun _ _ z => z
            exact hp σ _ P' ⟨w3.er.mono (Same.refl _) (msk_sub fun q z => z.imp id .inr), fun q z => w3.rd q (.inr z), fun q z w => w3.dj q z (.inr w)⟩ (w5.trans (msk_sub fun q z => .inl z))
  next => exact hp.elim
end
end PL

/-! PL14: append, insert, clear, pop; several names set -/
namespace PL
open PySem PySem.Spec PyProof.Rows L2

theorem few_plain {es : List Expr} {env : Env} {cpos : Pos} (h : es.all plainE = true) : (backTo cpos (starEach es env)).all (fun x => !x.1) = true := by
  have := starAny (env := env) (pos := cpos) h
  rw [List.any_eq_false] at this
  rw [List.all_eq_true]
  intro x hx
  simpa using this x hx
theorem hfew_plain {es : List Expr} {env : Env} {cpos : Pos} (h : es.all plainE = true) (hl : es.length < 30) :
    ((backTo cpos (starEach es env)).all (fun x => !x.1) && (backToKw cpos (keywordEach [] env)).all (fun x => x.1.isSome)
      && decide (es.length + ([] : List Keyword).length + (if ([] : List Keyword).isEmpty then 0 else 1) < 30)) = true := by
  rw [few_plain h]
  simp [backToKw, keywordEach, hl]
def NoCall (o : Expr) : Prop := match o with
  | .Call .. => False
  | _ => True
theorem base_plain {o : Expr} {name : Str} {env : Env} {w : Sem Value} (h : NoCall o) : attributeBase o name env w = w := by
  cases o <;> first | rfl | exact h.elim
def okL (xs : List OV) : Option (List OV) := some xs
/-- a method that answers None: what the items become -/
def fMt (i : Nat) (gp : List OV → Option (List Int)) (fa : AF) (g : List OV → List OV → Option (List OV)) : EF := fun env => (gp env).bind fun ks => (env[i]?).bind fun x0 => (x0.mod ks (onL okL)).bind fun _ =>
  bndA (fa env) fun ys e => if OV.nvs ys then (e[i]?).bind fun x => (x.mod ks (onL (g ys))).map fun x' => .ok (.fr .non) (e.set i x') else none
def MtOk (r : V → List V → Hp → VK → Prop) (g : List OV → List OV → Option (List OV)) : Prop := ∀ (K : PySem.W.Frag) (H F : Hp) (p : Addr) (vs : List V) (xs xs' ys : List OV) (ws : List V) (A B : Fp), Same F H → H p = some (.lst vs) → ROs K H F xs vs A → ROs K H F ys ws B → (∀ q, A q → ¬ B q) → OV.nvs xs = true → OV.nvs ys = true → g ys xs = some xs' →
  OV.nvs xs' = true ∧ ∃ vs' A1, ROs K H F xs' vs' A1 ∧ (∀ q, A1 q → A q ∨ B q) ∧ ∀ Q : VK, Q .non (upd H p (.lst vs')) → r (.ref p) ws H Q
section
variable {X : Cx} {W : WX} {R B : Fp} {F0 H H' H2 : Hp} {P P' : Nat → Fp} {σ : Sl} {env env' : List OV}
theorem At.emp (a : At X.K R H P σ env) : At X.K (fun q => Fp.emp q ∨ R q) H P σ env :=
  ⟨a.er.mono (Same.refl _) (msk_sub fun q z => z.imp id fun z => z.elim (fun z => z.elim) id), fun q z => z.elim (fun z => z.elim) (a.rd q), fun q z w => w.elim (fun w => w.elim) (a.dj q z)⟩
theorem At.unemp (a : At X.K (fun q => Fp.emp q ∨ R q) H P σ env) : At X.K R H P σ env :=
  ⟨a.er.mono (Same.refl _) (msk_sub fun q z => z.imp id .inr), fun q z => a.rd q (.inr z), fun q z w => a.dj q z (.inr w)⟩
/-- the object of a method: it is a list of the tree at slot i -/
theorem obj_ok {o : Expr} {i : Nat} {to : TE} {ks : List Int} {x0 x0' : OV} (a : At X.K R H P σ env) (ex : env[i]? = some x0) (em : x0.mod ks (onL okL) = some x0') :
    ∃ v p vs, σ[i]? = some (some v) ∧ HPath H v ks (.ref p) ∧ H p = some (.lst vs) := by
  obtain ⟨v, p, vs, xs, xs', A0, m1, m2, m3, _⟩ := a.emp.mut (F0 := fun _ => none) (fun _ z => z.elim) (fun _ _ e => by cases e) ex em
  exact ⟨v, p, vs, m1, m2, m3⟩
theorem SV.mt {r : V → List V → Hp → VK → Prop} {g : List OV → List OV → Option (List OV)} {o e : Expr} {es : List Expr} {i : Nat} {name : Str} {apos cpos : Pos} {id : String} {gp : List OV → Option (List Int)} {fa : AF} (ok : MtOk r g)
    (slot : Slot "list" name id) (hty : typeOf (.builtin id) = pure (.type "method_descriptor")) (hm : MtR X id r) (hb : NoCall o) (he : (e :: es).all plainE = true) (hl : (e :: es).length < 30) (hline : (apos.endLine == cpos.line) = true)
    (so : SPth X i o gp) (sa : SA X W (e :: es) fa) : SV X W (.Call (.Attribute o name apos) (e :: es) [] cpos) (fMt i gp fa g) := by
  obtain ⟨to, po, qo⟩ := so
  obtain ⟨ta, pa, qa⟩ := sa
  have he' := he
  simp only [List.all_cons, Bool.and_eq_true] at he'
  refine ⟨_, pe_bm PySem.F.plainAttrs_list slot hty hm po pa (base_plain hb) (hfew_plain he hl) hline (starEach_plain he'.1) (starAny he'.2), fun F0 R H P σ env a s Q hp => ?_⟩
  unfold fMt at hp
  cases eg : gp env with
  | none => rw [eg] at hp; exact hp.elim
  | some ks =>
    cases ex0 : env[i]? with
    | none => rw [eg, Option.bind_some, ex0] at hp; exact hp.elim
    | some x0 =>
      cases em0 : x0.mod ks (onL okL) with
      | none => rw [eg, Option.bind_some, ex0, Option.bind_some, em0] at hp; exact hp.elim
      | some x0' =>
        rw [eg, Option.bind_some, ex0, Option.bind_some, em0, Option.bind_some] at hp
        obtain ⟨v0, p0, vs0, m1, m2, m3⟩ := obj_ok (o := o) (to := to) a ex0 em0
        refine qo R H P σ env a ks v0 (.ref p0) eg m1 m2 _ fun H1 s1 => ⟨.inl ⟨rfl, vs0, .of (s1 _ _ m3)⟩, ?_⟩
        have a1 := a.grow s1
        refine qa R H1 P σ env a1 _ ?_
        cases ea : fa env with
        | none => rw [ea] at hp; exact hp.elim
        | some rr =>
          cases rr with
          | exc c => rw [ea] at hp; exact fun H' C s' hC => hp H' C ((s.trans msk_same).trans (s1.trans s')) hC
          | ok ys e1 =>
            rw [ea, bndA_ok] at hp
            intro ws H2 P2 B2 g2 r2
            split at hp
            next ny =>
              cases ex : e1[i]? with
              | none => rw [ex] at hp; exact hp.elim
              | some x =>
                rw [ex, Option.bind_some] at hp
                cases em : x.mod ks (onL (g ys)) with
                | none => rw [em] at hp; exact hp.elim
                | some x' =>
                  rw [em, Option.map_some] at hp
                  have a2 := g2.at a1
                  have sb : Same F0 (msk H2 fun q => Fam.un P2 q ∨ B2 q) := g2.base a1 (s.trans (msk_step s1 fun q z => .inl z))
                  obtain ⟨v1, p1, vs, xs, xs', A0, n1, n2, n3, n4, ng, n5, n6, n7, n8⟩ := a2.mut (g2.bR a1) sb ex em
                  rw [m1] at n1
                  cases n1
                  have := HPath.eq (m2.mono (s1.trans g2.same)) n2
                  cases this
                  obtain ⟨nv', vs', A1, k1, k2, k3⟩ := ok X.K H2 _ p0 vs xs xs' ys ws A0 B2 msk_same n3 n6 r2 (fun q z b => g2.dj q (n7 q z) b) n5 ny n4
                  obtain ⟨P', w3, w4, w5, w6, w7⟩ := n8 vs' A1 Fp.emp nv' k1 k2 (fun q z => z.elim) fun _ _ z => z
                  exact k3 _ (hp _ _ P' Fp.emp w3 w4 w5 (by simp [RO, RD, Fp.emp]))
            next => exact hp.elim
/-- .. without arguments -/
theorem SV.mt0 {r : V → List V → Hp → VK → Prop} {g : List OV → List OV → Option (List OV)} {o : Expr} {i : Nat} {name : Str} {apos cpos : Pos} {id : String} {gp : List OV → Option (List Int)} (ok : MtOk r g)
    (slot : Slot "list" name id) (hty : typeOf (.builtin id) = pure (.type "method_descriptor")) (hm : MtR X id r) (hb : NoCall o) (hline : (apos.endLine == cpos.line) = true)
    (so : SPth X i o gp) : SV X W (.Call (.Attribute o name apos) [] [] cpos) (fMt i gp aNil g) := by
  obtain ⟨to, po, qo⟩ := so
  refine ⟨_, pe_bm0 PySem.F.plainAttrs_list slot hty hm po (base_plain hb) hline, fun F0 R H P σ env a s Q hp => ?_⟩
  unfold fMt aNil at hp
  cases eg : gp env with
  | none => rw [eg] at hp; exact hp.elim
  | some ks =>
    cases ex0 : env[i]? with
    | none => rw [eg, Option.bind_some, ex0] at hp; exact hp.elim
    | some x0 =>
      cases em0 : x0.mod ks (onL okL) with
      | none => rw [eg, Option.bind_some, ex0, Option.bind_some, em0] at hp; exact hp.elim
      | some x0' =>
        rw [eg, Option.bind_some, ex0, Option.bind_some, em0, Option.bind_some, bndA_ok] at hp
        obtain ⟨v0, p0, vs0, m1, m2, m3⟩ := obj_ok (o := o) (to := to) a ex0 em0
        refine qo R H P σ env a ks v0 (.ref p0) eg m1 m2 _ fun H1 s1 => ⟨.inl ⟨rfl, vs0, .of (s1 _ _ m3)⟩, ?_⟩
        have a1 := a.grow s1
        have sb : Same F0 (msk H1 (Fam.un P)) := s.trans (msk_step s1 fun q z => .inl z)
        simp only [OV.nvs, if_true, ex0, Option.bind_some] at hp
        cases em : x0.mod ks (onL (g [])) with
        | none => rw [em] at hp; exact hp.elim
        | some x' =>
          rw [em, Option.map_some] at hp
          obtain ⟨v1, p1, vs, xs, xs', A0, n1, n2, n3, n4, ng, n5, n6, n7, n8⟩ := a1.emp.mut (fun _ z => z.elim) (sb.trans (msk_sub fun q z => z.elim (fun z => z) fun z => z.elim)) ex0 em
          rw [m1] at n1
          cases n1
          have := HPath.eq (m2.mono s1) n2
          cases this
          obtain ⟨nv', vs', A1, k1, k2, k3⟩ := ok X.K H1 _ p0 vs xs xs' [] [] A0 Fp.emp msk_same n3 n6 (by simp [ROs, Fp.emp]) (fun q z b => b) n5 rfl n4
          obtain ⟨P', w3, w4, w5, w6, w7⟩ := n8 vs' A1 Fp.emp nv' k1 k2 (fun q z => z.elim) fun _ _ z => z
          exact k3 _ (hp _ _ P' Fp.emp w3 w4 w5 (by simp [RO, RD, Fp.emp]))
/-- append of a value that a statement's expression makes, to a name's list -/
def fAppV (i : Nat) (fe : EF) : EF := fun env => (env[i]?).bind fun x0 => (x0.mod [] (onL okL)).bind fun _ =>
  bnd (fe env) fun y e => if y.nv then (e[i]?).bind fun x => (x.mod [] (onL fun xs => if xs.length < LM then some (xs ++ [y]) else none)).map fun x' => .ok (.fr .non) (e.set i x') else none
def gApp (ys xs : List OV) : Option (List OV) := match ys with
  | [y] => if xs.length < LM then some (xs ++ [y]) else none
  | _ => none
def gClear (ys xs : List OV) : Option (List OV) := match ys with
  | [] => some []
  | _ => none
def gIns (ys xs : List OV) : Option (List OV) := match ys with
  | [k, y] => (match k.d with
    | some (.int i) => if decide (0 ≤ i) && decide (i ≤ LM) && decide (xs.length < LM) then some (xs.take i.toNat ++ [y] ++ xs.drop i.toNat) else none
    | _ => none)
  | _ => none
theorem lm_le {n : Nat} (h : n < LM) : n < sizeLine := Nat.lt_trans h lm_line
theorem app_ok : MtOk rAppend gApp := by
  intro K H F p vs xs xs' ys ws A B sm hp rx ry dj nx ny e
  match ys, e, ry, ny with
  | [y], e, ry, ny =>
    simp only [gApp] at e
    split at e
    next hl =>
      simp only [Option.some.injEq] at e
      subst e
      simp only [OV.nvs, Bool.and_true] at ny
      have r2 := ROs.append rx ry dj
      simp only [ROs] at ry
      obtain ⟨v, r, B1, C, h1, h2, h3, h4, h5⟩ := ry
      obtain ⟨h3, _⟩ := h3
      subst h3 h1
      exact ⟨by rw [nvs_append, nx]; simp [OV.nvs, ny], vs ++ [v], _, r2, fun q z => z, fun Q q => ⟨p, vs, v, rfl, rfl, hp, by rw [← rx.length]; exact lm_le hl, q⟩⟩
    next => cases e
  | [], e, ry, ny => cases e
  | y :: z :: r, e, ry, ny => cases e
theorem clear_ok : MtOk rClear gClear := by
  intro K H F p vs xs xs' ys ws A B sm hp rx ry dj nx ny e
  match ys, e, ry with
  | [], e, ry =>
    simp only [gClear, Option.some.injEq] at e
    subst e
    simp only [ROs] at ry
    exact ⟨rfl, [], Fp.emp, by simp [ROs, Fp.emp], fun q z => z.elim, fun Q q => ⟨p, vs, rfl, ry.1, hp, q⟩⟩
  | y :: r, e, ry => cases e
theorem nvs_take {xs : List OV} {n : Nat} (h : OV.nvs xs = true) : OV.nvs (xs.take n) = true := nvs_iff.mpr fun x hx => nvs_iff.mp h x (List.mem_of_mem_take hx)
theorem nvs_drop {xs : List OV} {n : Nat} (h : OV.nvs xs = true) : OV.nvs (xs.drop n) = true := nvs_iff.mpr fun x hx => nvs_iff.mp h x (List.mem_of_mem_drop hx)
/-- take and drop apart -/
theorem ROs.split {K : PySem.W.Frag} {H F : Hp} : ∀ {xs : List OV} {vs : List V} {A : Fp} (n : Nat), ROs K H F xs vs A → ∃ B C, ROs K H F (xs.take n) (vs.take n) B ∧ ROs K H F (xs.drop n) (vs.drop n) C ∧ (∀ q, B q → ¬ C q) ∧ ∀ q, A q ↔ B q ∨ C q
  | xs, vs, A, 0, h => ⟨Fp.emp, A, by simp [ROs, Fp.emp], h, fun _ z => z.elim, fun q => by simp [Fp.emp]⟩
  | [], vs, A, n + 1, h => by
    simp only [ROs] at h
    exact ⟨Fp.emp, A, by simp [ROs, h.1, Fp.emp], by simp [ROs, h.1]; exact h.2, fun _ z => z.elim, fun q => by simp [Fp.emp]⟩
  | x :: xs, vs, A, n + 1, h => by
    simp only [ROs] at h
    obtain ⟨v, r, B, C, h1, h2, h3, h4, h5⟩ := h
    subst h1
    obtain ⟨B', C', k1, k2, k3, k4⟩ := ROs.split n h3
    refine ⟨fun q => B q ∨ B' q, C', ?_, by simpa using k2, fun q z c => z.elim (fun z => h4 q z ((k4 q).mpr (.inr c))) fun z => k3 q z c, fun q => ?_⟩
    · simp only [List.take_succ_cons, ROs]
      exact ⟨v, _, B, B', rfl, h2, k1, fun q b d => h4 q b ((k4 q).mpr (.inl d)), fun q => Iff.rfl⟩
    · rw [h5 q, k4 q, or_assoc]
theorem ins_ok : MtOk (fun x vs H Q => ∃ (l : Addr) (xs : List V) (i : Int) (y : V), x = .ref l ∧ vs = [.int i, y] ∧ H l = some (.lst xs) ∧ xs.length < sizeLine ∧ 0 ≤ i ∧ i < 2 ^ 63 ∧ Q .non (upd H l (.lst (xs.take i.toNat ++ [y] ++ xs.drop i.toNat)))) gIns := by
  intro K H F p vs xs xs' ys ws A B sm hp rx ry dj nx ny e
  match ys, e, ry, ny with
  | [], e, ry, ny => cases e
  | [y], e, ry, ny => cases e
  | y :: z :: w :: r, e, ry, ny => cases e
  | [k, y], e, ry, ny =>
    simp only [gIns] at e
    cases ed : k.d with
    | none => rw [ed] at e; cases e
    | some d =>
      cases d <;> simp only [ed, reduceCtorEq] at e
      rename_i i
      split at e
      next hl =>
        simp only [Bool.and_eq_true, decide_eq_true_eq] at hl
        simp only [Option.some.injEq] at e
        subst e
        simp only [OV.nvs, Bool.and_true, Bool.and_eq_true] at ny
        simp only [ROs] at ry
        obtain ⟨v, r, B1, C, h1, h2, ⟨v2, r2, B2, C2, h6, h7, h8, h9, h10⟩, h4, h5⟩ := ry
        obtain ⟨h8, h8'⟩ := h8
        subst h8 h6 h1
        have hv := h2.rd sm ed
        simp only [RD] at hv
        subst hv
        obtain ⟨A1, A2, s1, s2, s3, s4⟩ := ROs.split i.toNat rx
        have ry2 : ROs K H F [y] [v2] B2 := by
          simp only [ROs]
          exact ⟨v2, [], B2, Fp.emp, rfl, h7, ⟨rfl, fun _ z => z⟩, fun _ _ z => z, fun q => by simp [Fp.emp]⟩
        have b2 : ∀ q, B2 q → B q := fun q z => (h5 q).mpr (.inr ((h10 q).mpr (.inl z)))
        have r3 := ROs.append (ROs.append s1 ry2 fun q z b => dj q ((s4 q).mpr (.inl z)) (b2 q b)) s2 fun q z c => z.elim (fun z => s3 q z c) fun z => dj q ((s4 q).mpr (.inr c)) (b2 q z)
        refine ⟨by rw [nvs_append, nvs_append, nvs_take nx, nvs_drop nx]; simp [OV.nvs, ny.2], _, _, r3, fun q z => ?_, fun Q q => ⟨p, vs, i, v2, rfl, rfl, hp, by rw [← rx.length]; exact lm_le hl.2, hl.1.1, ?_, q⟩⟩
        · rcases z with (z | z) | z
          · exact .inl ((s4 q).mpr (.inl z))
          · exact .inr (b2 q z)
          · exact .inl ((s4 q).mpr (.inr z))
        · have : LM = 1000000 := rfl
          omega
      next => cases e
theorem SV.appV {o e : Expr} {i : Nat} {apos cpos : Pos} {fe : EF} (hb : NoCall o) (he : plainE e = true) (hline : (apos.endLine == cpos.line) = true)
    (so : SPth X i o (fun _ => some [])) (sv : SV X W e fe) : SV X W (.Call (.Attribute o "append" apos) [e] [] cpos) (fAppV i fe) := by
  obtain ⟨to, po, qo⟩ := so
  obtain ⟨t, p, q⟩ := sv
  have he' : [e].all plainE = true := by simp [he]
  refine ⟨_, pe_bm PySem.F.plainAttrs_list PySem.F.slot_list_append PySem.F.type_list_append mt_append po (pa_cons p pa_nil (starEach_plain he)) (base_plain hb) (hfew_plain he' (by simp)) hline (starEach_plain he) rfl, fun F0 R H P σ env a s Q hp => ?_⟩
  unfold fAppV at hp
  cases ex0 : env[i]? with
  | none => rw [ex0] at hp; exact hp.elim
  | some x0 =>
    cases em0 : x0.mod [] (onL okL) with
    | none => rw [ex0, Option.bind_some, em0] at hp; exact hp.elim
    | some x0' =>
      rw [ex0, Option.bind_some, em0, Option.bind_some] at hp
      obtain ⟨v0, p0, vs0, m1, m2, m3⟩ := obj_ok (o := o) (to := to) a ex0 em0
      refine qo R H P σ env a [] v0 (.ref p0) rfl m1 m2 _ fun H1 s1 => ⟨.inl ⟨rfl, vs0, .of (s1 _ _ m3)⟩, ?_⟩
      have a1 := a.grow s1
      refine q F0 R H1 P σ env a1 (s.trans (msk_step s1 fun q z => .inl z)) _ ?_
      cases ea : fe env with
      | none => rw [ea] at hp; exact hp.elim
      | some rr =>
        cases rr with
        | exc c => rw [ea] at hp; exact hp
        | ok y e1 =>
          rw [ea, bnd_ok] at hp
          intro w H2 P2 B2 a2 dR sb r2
          split at hp
          next ny =>
            cases ex : e1[i]? with
            | none => rw [ex] at hp; exact hp.elim
            | some x =>
              rw [ex, Option.bind_some] at hp
              cases em : x.mod [] (onL fun xs => if xs.length < LM then some (xs ++ [y]) else none) with
              | none => rw [em] at hp; exact hp.elim
              | some x' =>
                rw [em, Option.map_some] at hp
                obtain ⟨v1, p1, vs, xs, xs', A0, n1, n2, n3, n4, ng, n5, n6, n7, n8⟩ := a2.mut dR sb ex em
                rw [m1] at n1
                cases n1
                have m2' : v0 = .ref p0 := m2
                have n2' : v0 = .ref p1 := n2
                rw [m2'] at n2'
                cases n2'
                have ry : ROs X.K H2 (msk H2 (own P2 fun q => B2 q ∨ R q)) [y] [w] B2 := by
                  simp only [ROs]
                  exact ⟨w, [], B2, Fp.emp, rfl, r2, ⟨rfl, fun _ z => z⟩, fun _ _ z => z, fun q => by simp [Fp.emp]⟩
                obtain ⟨nv', vs', A1, k1, k2, k3⟩ := app_ok X.K H2 _ p0 vs xs xs' [y] [w] A0 B2 msk_same n3 n6 ry (fun q z b => a2.dj q (n7 q z) (.inl b)) n5 (by simp [OV.nvs, ny]) n4
                obtain ⟨P', w3, w4, w5, w6, w7⟩ := n8 vs' A1 Fp.emp nv' k1 k2 (fun q z => z.elim) fun _ _ z => z
                exact k3 _ (hp _ _ P' Fp.emp w3 w4 w5 (by simp [RO, RD, Fp.emp]))
          next => exact hp.elim

/-! ### pop -/
theorem ROs.erase {K : PySem.W.Frag} {H F : Hp} : ∀ {xs : List OV} {vs : List V} {A : Fp} {j : Nat} {y : OV}, ROs K H F xs vs A → xs[j]? = some y → ∃ w B C, vs[j]? = some w ∧ RO K H F y w B ∧ ROs K H F (xs.eraseIdx j) (vs.eraseIdx j) C ∧ (∀ q, C q → ¬ B q) ∧ (∀ q, B q → A q) ∧ ∀ q, C q → A q
  | [], vs, A, j, y, h, e => by simp at e
  | x :: xs, vs, A, 0, y, h, e => by
    simp only [ROs] at h
    obtain ⟨v, r, B, C, h1, h2, h3, h4, h5⟩ := h
    simp only [List.getElem?_cons_zero, Option.some.injEq] at e
    subst e h1
    exact ⟨v, B, C, rfl, h2, by simpa using h3, fun q c b => h4 q b c, fun q z => (h5 q).mpr (.inl z), fun q z => (h5 q).mpr (.inr z)⟩
  | x :: xs, vs, A, j + 1, y, h, e => by
    simp only [ROs] at h
    obtain ⟨v, r, B, C, h1, h2, h3, h4, h5⟩ := h
    subst h1
    obtain ⟨w, B', C', k1, k2, k3, k4, k5, k6⟩ := ROs.erase h3 (j := j) (y := y) (by simpa using e)
    refine ⟨w, B', fun q => B q ∨ C' q, by simpa using k1, k2, ?_, fun q z b => z.elim (fun z => h4 q z (k5 q b)) fun z => k4 q z b, fun q z => (h5 q).mpr (.inr (k5 q z)), fun q z => (h5 q).mpr (z.imp id (k6 q))⟩
    simp only [List.eraseIdx_cons_succ, ROs]
    exact ⟨v, _, B, C', rfl, h2, k3, fun q b c => h4 q b (k6 q c), fun q => Iff.rfl⟩
theorem nvs_erase {xs : List OV} {j : Nat} (h : OV.nvs xs = true) : OV.nvs (xs.eraseIdx j) = true := nvs_iff.mpr fun x hx => nvs_iff.mp h x (List.mem_of_mem_eraseIdx hx)
/-- the item at j taken out of the list at a place -/
def popG (j : List OV → Option Nat) (xs : List OV) : Option (List OV) := (j xs).map fun j => xs.eraseIdx j
def popY (j : List OV → Option Nat) (x : OV) (ks : List Int) : Option OV := (x.get ks).bind fun s => match s with
  | .ol xs => (j xs).bind fun j => xs[j]?
  | _ => none
def jLast (xs : List OV) : Option Nat := if xs = [] then none else some (xs.length - 1)
def fPop0 (i : Nat) (gp : List OV → Option (List Int)) : EF := fun env => (gp env).bind fun ks => (env[i]?).bind fun x => (popY jLast x ks).bind fun y => (x.mod ks (onL (popG jLast))).map fun x' => .ok y (env.set i x')
def jAt (k : Int) (xs : List OV) : Option Nat := if xs.length ≤ LM then ixN xs.length k else none
def fPopAt (i : Nat) (gp : List OV → Option (List Int)) (fk : EF) : EF := fun env => (gp env).bind fun ks => (fIdx fk env).bind fun k => (env[i]?).bind fun x => (popY (jAt k) x ks).bind fun y => (x.mod ks (onL (popG (jAt k)))).map fun x' => .ok y (env.set i x')
theorem mod_get {f : OV → Option OV} : ∀ {ks : List Int} {x x' : OV}, x.mod ks f = some x' → ∃ s s', x.get ks = some s ∧ f s = some s'
  | [], x, x', e => ⟨x, x', rfl, e⟩
  | k :: ks, .ol xs, x', e => by
    simp only [OV.mod, Option.bind_eq_some_iff, Option.map_eq_some_iff] at e
    obtain ⟨j, e1, y, e2, r, e3, e4⟩ := e
    obtain ⟨s, s', q1, q2⟩ := mod_get e3
    exact ⟨s, s', by simp only [OV.get, e1, Option.bind_some, e2, q1], q2⟩
  | k :: ks, .ot xs, x', e => by
    simp only [OV.mod, Option.bind_eq_some_iff, Option.map_eq_some_iff] at e
    obtain ⟨j, e1, y, e2, r, e3, e4⟩ := e
    obtain ⟨s, s', q1, q2⟩ := mod_get e3
    exact ⟨s, s', by simp only [OV.get, e1, Option.bind_some, e2, q1], q2⟩
  | k :: ks, .hole, x', e => by simp [OV.mod] at e
  | k :: ks, .fr _, x', e => by simp [OV.mod] at e
  | k :: ks, .vw _, x', e => by simp [OV.mod] at e
theorem SV.pop0 {o : Expr} {i : Nat} {apos cpos : Pos} {gp : List OV → Option (List Int)} (hb : NoCall o) (hline : (apos.endLine == cpos.line) = true)
    (so : SPth X i o gp) : SV X W (.Call (.Attribute o "pop" apos) [] [] cpos) (fPop0 i gp) := by
  obtain ⟨to, po, qo⟩ := so
  refine ⟨_, pe_bm0 PySem.F.plainAttrs_list PySem.F.slot_list_pop PySem.F.type_list_pop mt_pop po (base_plain hb) hline, fun F0 R H P σ env a s Q hp => ?_⟩
  unfold fPop0 at hp
  cases eg : gp env with
  | none => rw [eg] at hp; exact hp.elim
  | some ks =>
    cases ex : env[i]? with
    | none => rw [eg, Option.bind_some, ex] at hp; exact hp.elim
    | some x =>
      cases ey : popY jLast x ks with
      | none => rw [eg, Option.bind_some, ex, Option.bind_some, ey] at hp; exact hp.elim
      | some y =>
        rw [eg, Option.bind_some, ex, Option.bind_some, ey, Option.bind_some] at hp
        cases em : x.mod ks (onL (popG jLast)) with
        | none => rw [em] at hp; exact hp.elim
        | some x' =>
          rw [em, Option.map_some] at hp
          obtain ⟨v0, p0, vs0, xs0, xs0', A00, m1, m2, m3, _⟩ := a.emp.mut (F0 := fun _ => none) (fun _ z => z.elim) (fun _ _ e => by cases e) ex em
          refine qo R H P σ env a ks v0 (.ref p0) eg m1 m2 _ fun H1 s1 => ⟨.inl ⟨rfl, vs0, .of (s1 _ _ m3)⟩, ?_⟩
          have a1 := a.grow s1
          have sb : Same F0 (msk H1 (Fam.un P)) := s.trans (msk_step s1 fun q z => .inl z)
          obtain ⟨v1, p1, vs, xs, xs', A0, n1, n2, n3, n4, ng, n5, n6, n7, n8⟩ := a1.emp.mut (fun _ z => z.elim) (sb.trans (msk_sub fun q z => z.elim (fun z => z) fun z => z.elim)) ex em
          rw [m1] at n1
          cases n1
          have := HPath.eq (m2.mono s1) n2
          cases this
          simp only [popY, ng, Option.bind_some, jLast] at ey
          simp only [popG, jLast] at n4
          split at ey
          next => simp at ey
          next hne =>
            simp only [Option.bind_some] at ey
            rw [if_neg hne] at n4
            simp only [Option.map_some, Option.some.injEq] at n4
            subst n4
            obtain ⟨w, B1, C1, k1, k2, k3, k4, k5, k6⟩ := ROs.erase n6 ey
            have hl := n6.length
            obtain ⟨P', w3, w4, w5, w6, w7⟩ := n8 _ C1 B1 (nvs_erase n5) k3 (fun q z => .inl (k6 q z)) (fun q z => .inl (k5 q z)) k4
            rw [hl] at k1 w3 w5 w7
            have el : vs.eraseIdx (vs.length - 1) = vs.dropLast := by rw [List.dropLast_eq_take, List.eraseIdx_eq_take_drop_succ, List.drop_of_length_le (by omega), List.append_nil]
            rw [el] at w3 w5 w7
            refine ⟨p0, vs, w, rfl, rfl, n3, k1, hp _ _ P' B1 w3 w4 w5 ?_⟩
            have ny : y.nv = true := nvs_iff.mp n5 y (List.mem_of_getElem? ey)
            refine RO.cong (fun q us k => ?_) w7 (fun q z => by rw [upd_ne (w6 q z)]) ny k2
            rw [upd_ne (fun z => by subst z; rw [n3] at k; cases k)]; exact k
theorem SV.popAt {o k : Expr} {i : Nat} {apos cpos : Pos} {gp : List OV → Option (List Int)} {fk : EF} (hb : NoCall o) (hk : plainE k = true) (hline : (apos.endLine == cpos.line) = true)
    (so : SPth X i o gp) (sk : SE X W k fk) : SV X W (.Call (.Attribute o "pop" apos) [k] [] cpos) (fPopAt i gp fk) := by
  obtain ⟨to, po, qo⟩ := so
  obtain ⟨tk, pk, qk⟩ := sk
  have he' : [k].all plainE = true := by simp [hk]
  refine ⟨_, pe_bm PySem.F.plainAttrs_list PySem.F.slot_list_pop PySem.F.type_list_pop mt_popAt po (pa_cons pk pa_nil (starEach_plain hk)) (base_plain hb) (hfew_plain he' (by simp)) hline (starEach_plain hk) rfl, fun F0 R H P σ env a s Q hp => ?_⟩
  unfold fPopAt at hp
  cases eg : gp env with
  | none => rw [eg] at hp; exact hp.elim
  | some ks =>
    cases ek : fIdx fk env with
    | none => rw [eg, Option.bind_some, ek] at hp; exact hp.elim
    | some k' =>
      cases ex : env[i]? with
      | none => rw [eg, Option.bind_some, ek, Option.bind_some, ex] at hp; exact hp.elim
      | some x =>
        cases ey : popY (jAt k') x ks with
        | none => rw [eg, Option.bind_some, ek, Option.bind_some, ex, Option.bind_some, ey] at hp; exact hp.elim
        | some y =>
          rw [eg, Option.bind_some, ek, Option.bind_some, ex, Option.bind_some, ey, Option.bind_some] at hp
          cases em : x.mod ks (onL (popG (jAt k'))) with
          | none => rw [em] at hp; exact hp.elim
          | some x' =>
            rw [em, Option.map_some] at hp
            obtain ⟨v0, p0, vs0, xs0, xs0', A00, m1, m2, m3, _⟩ := a.emp.mut (F0 := fun _ => none) (fun _ z => z.elim) (fun _ _ e => by cases e) ex em
            refine qo R H P σ env a ks v0 (.ref p0) eg m1 m2 _ fun H1 s1 => ⟨.inl ⟨rfl, vs0, .of (s1 _ _ m3)⟩, ?_⟩
            refine SE.idx (b := k) qk (a.grow s1) ek fun H2 s2 => ?_
            have s12 := s1.trans s2
            have a1 := a.grow s12
            have sb : Same F0 (msk H2 (Fam.un P)) := s.trans (msk_step s12 fun q z => .inl z)
            obtain ⟨v1, p1, vs, xs, xs', A0, n1, n2, n3, n4, ng, n5, n6, n7, n8⟩ := a1.emp.mut (fun _ z => z.elim) (sb.trans (msk_sub fun q z => z.elim (fun z => z) fun z => z.elim)) ex em
            rw [m1] at n1
            cases n1
            have := HPath.eq (m2.mono s12) n2
            cases this
            simp only [popY, ng, Option.bind_some] at ey
            simp only [popG, Option.map_eq_some_iff] at n4
            obtain ⟨j, n4, rfl⟩ := n4
            rw [n4, Option.bind_some] at ey
            obtain ⟨w, B1, C1, k1, k2, k3, k4, k5, k6⟩ := ROs.erase n6 ey
            have hl := n6.length
            obtain ⟨P', w3, w4, w5, w6, w7⟩ := n8 _ C1 B1 (nvs_erase n5) k3 (fun q z => .inl (k6 q z)) (fun q z => .inl (k5 q z)) k4
            simp only [jAt] at n4
            split at n4
            next hlm =>
              obtain ⟨i1, i2, i3, i4⟩ := ixN_seq n4
              have : LM = 1000000 := rfl
              refine ⟨p0, vs, k', j, w, rfl, rfl, n3, by omega, by omega, by rw [← hl]; exact i1, k1, hp _ _ P' B1 w3 w4 w5 ?_⟩
              have ny : y.nv = true := nvs_iff.mp n5 y (List.mem_of_getElem? ey)
              refine RO.cong (fun q us k => ?_) w7 (fun q z => by rw [upd_ne (w6 q z)]) ny k2
              rw [upd_ne (fun z => by subst z; rw [n3] at k; cases k)]; exact k
            next => cases n4

/-! ### several names set -/
def giveAll : List Nat → List OV → List OV → Option (List OV)
  | [], [], e => some e
  | i :: is, x :: xs, e => if x.nv && decide (i < e.length) then giveAll is xs (e.set i x) else none
  | _, _, _ => none
def OV.prt : OV → Option (List OV)
  | .fr (.tup ds) => some (ds.map .fr)
  | .fr (.lst ds) => some (ds.map .fr)
  | .ot xs => some xs
  | .ol xs => some xs
  | _ => none
def fUn (is : List Nat) (f : EF) : SF := fun env => sB (f env) fun x e => x.prt.bind fun xs => (giveAll is xs e).map .nx
theorem pg_or {tg : Expr} {g1 g2 : TG} (h1 : PG X tg g1) (h2 : PG X tg g2) : PG X tg (fun v σ H Q => g1 v σ H Q ∨ g2 v σ H Q) :=
  ⟨fun pins s σ H v u Q I r h => h.elim (fun h => h1.run pins s σ H v u Q I r h) fun h => h2.run pins s σ H v u Q I r h⟩
def SUs (X : Cx) (tes : List Expr) (is : List Nat) : Prop := tes.length = is.length ∧ ∃ g : TGs, PGs X tes g ∧ ∀ F0 R B H P σ env xs vs env2, At X.K (fun q => B q ∨ R q) H P σ env → (∀ q, B q → ¬ R q) → Same F0 (msk H fun q => Fam.un P q ∨ B q) → ROs X.K H (msk H (own P fun q => B q ∨ R q)) xs vs B → giveAll is xs env = some env2 →
  ∀ Q : Sl → Hp → Prop, (∀ σ2 P2, At X.K R H P2 σ2 env2 → Same F0 (msk H (Fam.un P2)) → Q σ2 H) → g vs σ H Q
theorem SUs.nil : SUs X [] [] := by
  refine ⟨rfl, _, pgs_nil, fun F0 R B H P σ env xs vs env2 a dR s r e Q q => ?_⟩
  cases xs with
  | nil =>
    simp only [giveAll, Option.some.injEq] at e
    subst e
    simp only [ROs] at r
    exact ⟨r.1, q σ P ⟨a.er.mono (Same.refl _) (msk_sub fun q z => z.imp id .inr), fun q z => a.rd q (.inr z), fun q z w => a.dj q z (.inr w)⟩ (s.trans (msk_sub fun q z => .inl z))⟩
  | cons x xs => simp [giveAll] at e
theorem SUs.cons {i : Nat} {is : List Nat} {x : Str} {pos : Pos} {tes : List Expr} (hN : X.N.Nodup) (hi : X.N[i]? = some x) (hx : Loc X.env.scope x) (hf : X.fn x = true ∨ X.env.scope.names.lookup x = some .local) (r : SUs X tes is) : SUs X (.Name x pos :: tes) (i :: is) := by
  obtain ⟨hl, g, p, q⟩ := r
  refine ⟨by simp [hl], _, pgs_cons (pg_name hN hi hx hf) p, fun F0 R B H P σ env xs vs env2 a dR s r e Q hq => ?_⟩
  cases xs with
  | nil => simp [giveAll] at e
  | cons y ys =>
    simp only [giveAll] at e
    split at e
    next h =>
      simp only [Bool.and_eq_true, decide_eq_true_eq] at h
      simp only [ROs] at r
      obtain ⟨v, w, B1, C, h1, h2, h3, h4, h5⟩ := r
      refine ⟨v, w, h1, ?_⟩
      have a2 : At X.K (fun q => B1 q ∨ (C q ∨ R q)) H P σ env := ⟨a.er.mono (Same.refl _) (msk_sub fun q z => ?_), fun q z => ?_, fun q z w => ?_⟩
      · have f2 : Same (msk H (own P fun q => B q ∨ R q)) (msk H (own P fun q => B1 q ∨ (C q ∨ R q))) := msk_sub fun q z => by
          rcases z with z | z | z | z
          · exact .inl z
          · exact .inr (.inl ((h5 q).mpr (.inl z)))
          · exact .inr (.inl ((h5 q).mpr (.inr z)))
          · exact .inr (.inr z)
        have d1 : ∀ q, B1 q → ¬ (C q ∨ R q) := fun q b z => z.elim (h4 q b) (dR q ((h5 q).mpr (.inl b)))
        have s1 : Same F0 (msk H fun q => Fam.un P q ∨ B1 q) := s.trans (msk_sub fun q z => z.imp id fun z => (h5 q).mpr (.inl z))
        obtain ⟨a3, s3⟩ := a2.give d1 s1 h.2 h.1 (h2.mono (Same.refl _) f2)
        refine q F0 R C H _ _ _ ys w env2 a3 (fun q c => dR q ((h5 q).mpr (.inr c))) (s.trans (msk_sub fun q z => ?_)) (h3.mono (Same.refl _) (f2.trans (msk_sub fun q z => ?_))) e Q hq
        · rcases z with z | z
          · rcases un_set z with z | ⟨j, _, z⟩
            · exact .inr ((h5 q).mpr (.inl z))
            · exact .inl ⟨j, z⟩
          · exact .inr ((h5 q).mpr (.inr z))
        · rcases z with z | z | z
          · rcases un_set z with z | ⟨j, _, z⟩
            · exact .inr (.inl z)
            · exact .inl ⟨j, z⟩
          · exact .inr (.inr (.inl z))
          · exact .inr (.inr (.inr z))
      · rcases z with z | z | z | z
        · exact .inl z
        · exact .inr (.inl ((h5 q).mpr (.inl z)))
        · exact .inr (.inl ((h5 q).mpr (.inr z)))
        · exact .inr (.inr z)
      · rcases z with z | z | z
        · exact a.rd q (.inl ((h5 q).mpr (.inl z)))
        · exact a.rd q (.inl ((h5 q).mpr (.inr z)))
        · exact a.rd q (.inr z)
      · rcases w with w | w | w
        · exact a.dj q z (.inl ((h5 q).mpr (.inl w)))
        · exact a.dj q z (.inl ((h5 q).mpr (.inr w)))
        · exact a.dj q z (.inr w)
    next => cases e
theorem giveAll_length : ∀ {is : List Nat} {xs env env2 : List OV}, giveAll is xs env = some env2 → xs.length = is.length
  | [], [], env, env2, e => rfl
  | [], x :: xs, env, env2, e => by simp [giveAll] at e
  | i :: is, [], env, env2, e => by simp [giveAll] at e
  | i :: is, x :: xs, env, env2, e => by
    simp only [giveAll] at e
    split at e
    · simp [giveAll_length e]
    · cases e
theorem SS.un {tes : List Expr} {is : List Nat} {e : Expr} {f : EF} {k : Nat} {pos spos : Pos} (hc : X.calm = true) (hn : (assignEach tes X.env).length = tes.length) (hst : (assignEach tes X.env).findIdx? (·.1) = none)
    (hs : swapsWithSole [.Tuple tes k pos] e spos.line X.env = pure false) (hw : swappedStores [.Tuple tes k pos] e X.env = pure none) (us : SUs X tes is) (sv : SV X W e f) : SS X W (.Assign [.Tuple tes k pos] e spos) (fUn is f) := by
  obtain ⟨t, p, q⟩ := sv
  obtain ⟨hl, g, pg, qg⟩ := us
  refine ⟨_, ps_asg p (pg_or (pg_tup hc pg hn hst) (pg_lst hc pg hn hst)) hs hw (by rfl), fun F0 R H P σ env a s D hp => sB_post q a s hp fun x e1 hfe hp v H1 P1 B1 a1 dR s1 r1 => ?_⟩
  clear hfe
  cases ex : x.prt with
  | none => rw [ex] at hp; exact hp.elim
  | some xs =>
    rw [ex, Option.bind_some] at hp
    cases eg : giveAll is xs e1 with
    | none => rw [eg] at hp; exact hp.elim
    | some e2 =>
      rw [eg, Option.map_some] at hp
      have hx := giveAll_length eg
      have fin : ∀ {B2 vs}, (∀ q, B2 q → B1 q) → ROs X.K H1 (msk H1 (own P1 fun q => B1 q ∨ R q)) xs vs B2 → g vs σ H1 D.nx := fun {B2 vs} hb r => by
        refine qg F0 R B2 H1 P1 σ e1 xs vs e2 ⟨a1.er.mono (Same.refl _) (msk_sub fun q z => ?_), fun q z => a1.rd q (z.imp (hb q) id), fun q z w => a1.dj q z (w.imp (hb q) id)⟩ (fun q b => dR q (hb q b)) (s1.trans (msk_sub fun q z => z.imp id (hb q))) (r.sub fun q z => ?_) eg D.nx fun σ2 P2 a2 s2 => hp σ2 H1 P2 a2 s2
        · exact z.imp id fun z => z.imp (hb q) id
        · exact z.imp id fun z => z.imp (hb q) id
      cases x <;> simp only [OV.prt, reduceCtorEq] at ex
      · rename_i d
        cases d <;> simp only [Option.some.injEq, reduceCtorEq] at ex
        · subst ex
          simp only [RO, RD] at r1
          obtain ⟨⟨p, vs, h1, h2, h3⟩, _⟩ := r1
          refine .inl ⟨p, vs, h1, .of (msk_same _ _ h2), ?_, fin (B2 := Fp.emp) (fun q z => z.elim) (ros_fr h3)⟩
          rw [← h3.length]
          simp at hx
          omega
        · subst ex
          simp only [RO, RD] at r1
          obtain ⟨⟨p, vs, h1, h2, h3⟩, _⟩ := r1
          refine .inr ⟨p, vs, h1, .of (msk_same _ _ h2), ?_, fin (B2 := Fp.emp) (fun q z => z.elim) (ros_fr h3)⟩
          rw [← h3.length]
          simp at hx
          omega
      · simp only [Option.some.injEq] at ex
        subst ex
        simp only [RO] at r1
        obtain ⟨p, vs, B2, h1, h2, h3, h4, h5⟩ := r1
        refine .inr ⟨p, vs, h1, .of h2, ?_, fin (fun q z => (h5 q).mpr (.inr z)) h3⟩
        rw [← h3.length]; omega
      · simp only [Option.some.injEq] at ex
        subst ex
        simp only [RO] at r1
        obtain ⟨p, vs, h1, h2, h3⟩ := r1
        refine .inl ⟨p, vs, h1, .of h2, ?_, fin (fun q z => z) h3⟩
        rw [← h3.length]; omega
end
end PL

/-! PL14b: looked at by places; sorted; {}; exceptions held; try -/
namespace PL
open PySem PySem.Spec PyProof.Rows L2

section
variable {X : Cx} {W : WX} {R B : Fp} {F0 H H' H2 : Hp} {P P' : Nat → Fp} {σ : Sl} {env env' : List OV}
/-! ### a place looked at -/
theorem get_mod : ∀ {ks : List Int} {x s : OV}, x.get ks = some s → ∃ x', x.mod ks some = some x'
  | [], x, s, e => ⟨x, rfl⟩
  | k :: ks, .ol xs, s, e => by
    simp only [OV.get, Option.bind_eq_some_iff] at e
    obtain ⟨j, e1, y, e2, e3⟩ := e
    obtain ⟨x', e4⟩ := get_mod e3
    exact ⟨.ol (xs.set j x'), by simp only [OV.mod, e1, Option.bind_some, e2, e4, Option.map_some]⟩
  | k :: ks, .ot xs, s, e => by
    simp only [OV.get, Option.bind_eq_some_iff] at e
    obtain ⟨j, e1, y, e2, e3⟩ := e
    obtain ⟨x', e4⟩ := get_mod e3
    exact ⟨.ot (xs.set j x'), by simp only [OV.mod, e1, Option.bind_some, e2, e4, Option.map_some]⟩
  | k :: ks, .hole, s, e => by simp [OV.get] at e
  | k :: ks, .fr _, s, e => by simp [OV.get] at e
  | k :: ks, .vw _, s, e => by simp [OV.get] at e
def fPv (i : Nat) (g : List OV → Option (List Int)) : EF := fun env => (g env).bind fun ks => (env[i]?).bind fun x => (x.get ks).bind fun s => s.view.map fun y => .ok y env
theorem SE.pv {i : Nat} {e : Expr} {g : List OV → Option (List Int)} (s : SPth X i e g) : SE X W e (fPv i g) := by
  obtain ⟨t, p, q⟩ := s
  refine ⟨t, p, fun R H P σ env a Q hp => ?_⟩
  unfold fPv at hp
  cases eg : g env with
  | none => rw [eg] at hp; exact hp.elim
  | some ks =>
    cases ex : env[i]? with
    | none => rw [eg, Option.bind_some, ex] at hp; exact hp.elim
    | some x =>
      cases es : x.get ks with
      | none => rw [eg, Option.bind_some, ex, Option.bind_some, es] at hp; exact hp.elim
      | some sx =>
        cases ev : sx.view with
        | none => rw [eg, Option.bind_some, ex, Option.bind_some, es, Option.bind_some, ev] at hp; exact hp.elim
        | some y =>
          rw [eg, Option.bind_some, ex, Option.bind_some, es, Option.bind_some, ev, Option.map_some] at hp
          obtain ⟨nx, o, e1, e2⟩ := a.er.at_ i x ex
          have hx : x ≠ .hole := by
            rintro rfl
            cases ks with
            | nil => simp only [OV.get, Option.some.injEq] at es; subst es; simp [OV.view] at ev
            | cons k ks => simp [OV.get] at es
          obtain ⟨v, rfl, r⟩ := e2.ro hx
          obtain ⟨x', em⟩ := get_mod es
          obtain ⟨s0, s', w, B, C, g0, gn, g1, g2, g3, g4, g5, g6⟩ := mod_ok nx r em
          rw [es] at g0
          cases g0
          refine q R H P σ env a ks v w eg e1 g2 Q fun H1 s1 => ?_
          have g1' : Go X.K R H P σ H1 P env Fp.emp := (Go.refl a).grow a s1
          exact hp w H1 P Fp.emp g1' ((view_ok (g1'.at0 a).out ev (g3.mono s1 (msk_step s1 fun q z => .inl z))).sub own_emp')

/-! ### sorted -/
def D.le (a b : D) : Bool := PySem.W.dataLe false D.py a b
def D.srtOk (ds : List D) : Bool := D.shs ds 19 && decide (ds.length ≤ LM) && (ds.all fun a => ds.all fun b => PySem.W.alike a.py b.py) && ((ds.all fun d => match d with
    | .tup (_ :: _) => true
    | _ => false) || ds.all fun d => match d with
    | .non => false
    | .tup _ => false
    | .dct _ _ => false
    | .scr _ => false
    | .str _ => false
    | .exc _ => false
    | _ => true)
def fSrt (fa : EF) : EF := fun env => bnd (fSt fa env) fun x e => match x with
  | .fr (.lst ds) => if D.srtOk ds then some (.ok (.ol ((ds.mergeSort D.le).map .fr)) e) else none
  | _ => none
def rSrt (K : PySem.W.Frag) : List V → Hp → VK → Prop := fun vs H Q => ∃ (a : Addr) (xs : List V) (ds : List D), vs = [V.ref a] ∧ SqL K H a xs ∧ RDs K H ds xs ∧ D.srtOk ds = true ∧
  ∀ ys p, (∀ K' F, RDs K' F ds xs → RDs K' F (ds.mergeSort D.le) ys) → H p = none → Q (.ref p) (upd H p (.lst ys))
theorem pys_map : ∀ {ds : List D}, D.pys ds = ds.map D.py
  | [] => rfl
  | d :: ds => by simp [D.pys, pys_map (ds := ds)]
theorem rds_zip {K : PySem.W.Frag} {H : Hp} : ∀ {zs : List (V × D)}, (∀ z ∈ zs, RD K H z.2 z.1) ↔ RDs K H (zs.map (·.2)) (zs.map (·.1))
  | [] => by simp [RDs]
  | z :: zs => by
    simp only [List.map_cons, RDs, List.forall_mem_cons]
    constructor
    · rintro ⟨h1, h2⟩
      exact ⟨z.1, _, rfl, h1, rds_zip.mp h2⟩
    · rintro ⟨v, r, h1, h2, h3⟩
      cases h1
      exact ⟨h2, rds_zip.mpr h3⟩
theorem depth_mem : ∀ {ds : List PyData} {d : PyData}, d ∈ ds → d.depth ≤ PyData.depthAll ds
  | [], d, h => by simp at h
  | e :: ds, d, h => by
    rcases List.mem_cons.mp h with h | h
    · subst h
      simp only [PyData.depthAll]
      omega
    · have := depth_mem h
      simp only [PyData.depthAll]
      omega
theorem cr_srt (hu : X.A.units + 65 < cLine) : CallR X (.builtin "sorted") (rSrt X.K) := by
  intro pins s σ H vs us Q I r h
  obtain ⟨a, xs, ds, rfl, hS, rd, ok, q⟩ := h
  simp only [D.srtOk, Bool.and_eq_true, decide_eq_true_eq] at ok
  obtain ⟨⟨⟨h1, h2⟩, h3⟩, h4⟩ := ok
  obtain ⟨its, rv, hl, hz⟩ := I.list hS
  rw [Vals.ref1 r]
  have hlen := rd.length
  have el : its.length = xs.length := rv.length.symm
  -- the items as pairs
  have e1 : (xs.zip ds).map (·.1) = xs := List.map_fst_zip (by omega)
  have e2 : (xs.zip ds).map (·.2) = ds := List.map_snd_zip (by omega)
  have ee : PySem.W.EachIs (fun (v : Value) (b : V × D) => RelV b.1 v) its (xs.zip ds) := by
    refine PySem.W.EachIs.of_zip (by rw [List.length_zip]; omega) fun p hp => ?_
    obtain ⟨i, hi, ep⟩ := List.mem_iff_getElem.mp hp
    simp only [List.getElem_zip] at ep
    subst ep
    simp only [List.length_zip] at hi
    obtain ⟨u, h5, h6⟩ := rv.get (i := i) (x := xs[i]) (by simp)
    have : its[i]? = some its[i] := by simp
    rw [this] at h5
    cases h5
    exact h6
  obtain ⟨as, rs⟩ := Dp.readsAll I (D.pys ds) xs its (rd.dp h1) rv
  have er : PySem.W.EachIs (fun (v : Value) (b : V × D) => ∃ as, Reads s.heap v b.2.py as) its (xs.zip ds) := by
    refine PySem.W.readsAll_each (fun b : V × D => b.2.py) (as := as) ?_
    have : (xs.zip ds).map (fun b : V × D => b.2.py) = D.pys ds := by
      rw [pys_map]
      conv => rhs; rw [← e2]
      rw [List.map_map]
      rfl
    rw [this]
    exact rs
  have mem : ∀ b ∈ xs.zip ds, b.2 ∈ ds := fun b hb => by rw [← e2]; exact List.mem_map_of_mem hb
  refine PySem.W.sorted_data (R := fun v b => RelV b.1 v) (enc := fun b : V × D => b.2.py) hl.isList ee er (fun d hd d' hd' => ?_) ?_ (by rw [List.length_zip]; have := lm_line; omega) (fun b hb => ?_) fun out ho eo => ?_
  · obtain ⟨b, hb, rfl⟩ := List.mem_map.mp hd
    obtain ⟨b', hb', rfl⟩ := List.mem_map.mp hd'
    exact List.all_eq_true.mp (List.all_eq_true.mp h3 _ (mem b hb)) _ (mem b' hb')
  · simp only [Bool.or_eq_true, List.all_eq_true] at h4
    rcases h4 with h4 | h4
    · refine .inl fun d hd => ?_
      obtain ⟨b, hb, rfl⟩ := List.mem_map.mp hd
      have := h4 _ (mem b hb)
      split at this
      · rename_i x r e
        exact ⟨x.py, D.pys r, by rw [e]; rfl⟩
      · cases this
    · refine .inr fun d hd => ?_
      obtain ⟨b, hb, rfl⟩ := List.mem_map.mp hd
      have := h4 _ (mem b hb)
      cases hb2 : b.2 <;> simp only [hb2] at this <;> first | (cases this; done) | exact ⟨by simp [D.py], by simp [D.py]⟩
  · have := (pys_lay h1).2
    have h7 : b.2.py ∈ D.pys ds := by rw [pys_map]; exact List.mem_map_of_mem (mem b hb)
    have := depth_mem h7
    omega
  · obtain ⟨ep, he'⟩ := PyProof.Rows.sortedAll_at s.heap its out.toArray
    have hm : ∀ b, b ∈ (xs.zip ds).mergeSort (PySem.W.dataLe false fun b : V × D => b.2.py) → b ∈ xs.zip ds := fun b hb => (List.mergeSort_perm _ _).mem_iff.mp hb
    have vo : Vals (((xs.zip ds).mergeSort (PySem.W.dataLe false fun b : V × D => b.2.py)).map (·.1)) out := by
      have : ∀ {l : List (V × D)} {o : List Value}, PySem.W.EachIs (fun v b => RelV b.1 v) o l → Vals (l.map (·.1)) o := by
        intro l o h
        induction h with
        | nil => exact .nil
        | cons h _ ih => exact .cons h ih
      exact this eo
    refine ⟨.ref _, upd H (s.heap.objs.size + 1) (.lst _), I.laid (t' := s.toks) (fun _ _ => PyProof.Rows.sortedAll_old) (Nat.le_succ _) ⟨?_, out, ep, vo, he'⟩, rfl, q _ _ (fun K' F rd' => ?_) (I.hok.fresh (Nat.le_succ _))⟩
    · rw [List.length_map, List.length_mergeSort, List.length_zip]
      have := lm_line
      omega
    · have e3 : ((xs.zip ds).mergeSort (PySem.W.dataLe false fun b : V × D => b.2.py)).map (·.2) = ds.mergeSort D.le := by
        refine (List.map_mergeSort (r := PySem.W.dataLe false fun b : V × D => b.2.py) (s := D.le) (f := fun b : V × D => b.2) (l := xs.zip ds) (fun a _ b _ => rfl)).trans ?_
        rw [e2]
      rw [← e3]
      refine rds_zip.mp fun z hz => ?_
      refine (rds_zip (zs := xs.zip ds)).mpr ?_ z (hm z hz)
      rw [e1, e2]
      exact rd'
theorem SE.srt {a : Expr} {fa : EF} {p pos : Pos} (hu : X.A.units + 65 < cLine) (hg : Gl X "sorted") (hm : X.mg "sorted" = none) (ha : plainE a = true) (sa : SE X W a fa) : SE X W (.Call (.Name "sorted" p) [a] [] pos) (fSrt fa) := by
  obtain ⟨ta, pa, qa⟩ := sa.st
  refine ⟨_, pe_callB (cr_srt hu) hg hm boot_sorted (pa_cons pa pa_nil (starEach_plain ha)) (by decide) (by decide) (starEach_plain ha) rfl, fun R H P σ env a Q hp => qa R H P σ env a _ ?_⟩
  unfold fSrt at hp
  cases ea : fSt fa env with
  | none => rw [ea] at hp; exact hp
  | some s =>
    cases s with
    | exc c => rw [ea] at hp; exact hp
    | ok x e1 =>
      rw [ea, bnd_ok] at hp
      intro v H1 P1 B1 g1 r1
      cases x <;> try exact hp.elim
      rename_i d
      cases d <;> try exact hp.elim
      rename_i ds
      simp only at hp
      split at hp
      next ok =>
        have r2 := g1.frzv a rfl r1 rfl
        simp only [RD] at r2
        obtain ⟨p0, vs, rfl, h2, h3⟩ := r2
        have g2 := g1.weak (B2 := Fp.emp) fun q z => z.elim
        refine ⟨p0, vs, ds, rfl, .of (msk_same _ _ h2), RDs.mono msk_same _ _ h3, ok, fun ys p hy hpn => ?_⟩
        exact post_lst a g2 (ros_fr (RDs.mono (msk_sub own_emp') _ _ (hy _ _ h3))) hpn hp
      next => exact hp.elim
/-! ### {} -/
theorem SE.dct0 {pos : Pos} : SE X W (.Dict [] [] pos) (fun env => some (.ok (.fr (.dct [] [])) env)) := by
  refine ⟨_, pe_dnewK, fun R H P σ env a Q hp => ?_⟩
  intro p hpn
  have g := (Go.refl a).new a (o := .dK []) (B2 := Fp.emp) hpn fun q z => z.elim
  refine hp (.ref p) _ P Fp.emp g ?_
  simp only [RO, RD]
  refine ⟨⟨p, [], rfl, msk_some.mpr ⟨fun z => ?_, upd_same⟩, rfl, ?_⟩, fun _ z => z⟩
  · obtain ⟨vs, e⟩ := a.out p ((own_emp p).mp z)
    rw [hpn] at e; cases e
  · simp [RDs]
end

/-! ### exceptions that are held -/
/-- what is known of the own exception classes -/
structure ExF (K : PySem.W.Frag) (mg : Str → Option Value) (ex : List Str) : Prop where
  gl : ∀ x, ex.contains x = true → mg x = some (.ref (He.ga K x))
  cls : ∀ x, ex.contains x = true → ExcC K (He.ga K x)
  kit : ∀ x y, ex.contains x = true → ex.contains y = true → PySem.W.kitOne K (.ref (He.ga K x)) (.ref (He.ga K y)) = some (decide (x = y))
  ve : ∀ x, ex.contains x = true → PySem.W.kitOne K (.ref (He.ga K x)) (.type "ValueError") = some true
  exm : ∀ x, ex.contains x = true → PySem.W.exmOne K (.ref (He.ga K x)) (.ref (He.ga K "ChanceError")) = some true
  ce : mg "ChanceError" = some (.ref (He.ga K "ChanceError"))
  db : ∀ x, ex.contains x = true → (x == ("__debug__" : Str)) = false
  nv : ex.contains "ValueError" = false
def isxD (cs : List Str) (ex : List Str) : D → Option D
  | .exc c => if ex.contains c then some (.bl (cs.any fun y => decide (y = "ValueError") || decide (c = y))) else none
  | _ => none
def clsV (K : PySem.W.Frag) (y : Str) : V := if y = "ValueError" then .ty "ValueError" else .ref (He.ga K y)
def clsU (K : PySem.W.Frag) (y : Str) : Value := if y = "ValueError" then .type "ValueError" else .ref (He.ga K y)
theorem clsV_ok {K : PySem.W.Frag} (y : Str) : ClsV (clsV K y) (clsU K y) := by
  unfold clsV clsU
  split
  · exact .ty _
  · exact .own _
theorem exc_inst {K : PySem.W.Frag} {P : Program} {w : World} {H : Hp} {h : Heap} {a C : Addr} (o : HOk P w H h) (e : H a = some (.ext (excPhi C a))) : ∃ oe, PySem.W.InstAt h a oe C none := by
  obtain ⟨⟨oe, vs, h1, h2, h3, h4⟩, _, _⟩ := o a _ e
  refine ⟨oe, ?_⟩
  obtain ⟨oc, od, oda, osl⟩ := oe
  simp only at h2 h3 h4
  subst h2 h3 h4
  exact ⟨h1, rfl, rfl, trivial⟩
def rIsX (K : PySem.W.Frag) : List V → Hp → VK → Prop := fun xs H Q => ∃ (a C : Addr) (c : V) (u : Value) (b : Bool), xs = [.ref a, c] ∧ H a = some (.ext (excPhi C a)) ∧ ExcC K C ∧ ClsV c u ∧ PySem.W.kitOne K (.ref C) u = some b ∧ Q (.bl b) H
theorem call_isX {X : Cx} : CallR X (.builtin "isinstance") (rIsX X.K) := by
  intro pins s σ H xs us Q I r h
  obtain ⟨a, C, c, u, b, rfl, e, ec, k, kk, q⟩ := h
  obtain ⟨u1, u2, rfl, r1, r2⟩ := vals2 r
  cases (show u1 = Value.ref a from r1)
  have e2 := k.eq r2
  subst e2
  obtain ⟨oe, J⟩ := exc_inst (K := X.K) I.hok e
  exact PySem.W.kia_one (PySem.W.handS_kitx_exc ec.hg ec.hk ec.hs ec.hd ec.ha ec.hn ec.ht ec.hm) I.kIn J kk (fun z => nomatch z) fun tk => ⟨.bl b, H, I.kept (t' := tk) fun _ _ z => z, rfl, q⟩
def rIsXT (K : PySem.W.Frag) : List V → Hp → VK → Prop := fun xs H Q => ∃ (a C tp : Addr) (cs : List V) (us : List Value) (b : Bool), xs = [.ref a, .ref tp] ∧ H a = some (.ext (excPhi C a)) ∧ ExcC K C ∧ H tp = some (.tup cs) ∧ Paired ClsV cs us ∧ PySem.W.kitAny K (.ref C) us = some b ∧ Q (.bl b) H
theorem call_isXT {X : Cx} : CallR X (.builtin "isinstance") (rIsXT X.K) := by
  intro pins s σ H xs us Q I r h
  obtain ⟨a, C, tp, cs, ws, b, rfl, e, ec, hT, k, kk, q⟩ := h
  obtain ⟨u1, u2, rfl, r1, r2⟩ := vals2 r
  cases (show u1 = Value.ref a from r1)
  cases (show u2 = Value.ref tp from r2)
  obtain ⟨oe, J⟩ := exc_inst (K := X.K) I.hok e
  obtain ⟨_, its, rv, o, h1, h2, n, h3⟩ := (show ObjOk X.prog X.w H s.heap tp (.tup cs) from I.hok tp _ hT)
  have e3 := ClsV.all k rv
  subst e3
  obtain ⟨oc, od, dt, sl⟩ := o
  simp only at h2 h3
  subst h2 h3
  exact PySem.W.kia_tup (PySem.W.handS_kitx_exc ec.hg ec.hk ec.hs ec.hd ec.ha ec.hn ec.ht ec.hm) I.kIn J h1 kk (fun z => nomatch z) fun tk => ⟨.bl b, H, I.kept (t' := tk) fun _ _ z => z, rfl, q⟩
section
variable {X : Cx} {W : WX} {R B : Fp} {F0 H H' H2 : Hp} {P P' : Nat → Fp} {σ : Sl} {env env' : List OV} {ex : List Str}
/-- a class's name, as the text has it -/
def ClsN (X : Cx) (ex : List Str) (y : Str) : Prop := (y = "ValueError" ∧ Gl X "ValueError" ∧ X.mg "ValueError" = none) ∨ (ex.contains y = true ∧ Gl X y)
theorem ClsN.pe (f : ExF X.K X.mg ex) {y : Str} {pos : Pos} (h : ClsN X ex y) : PE X (.Name y pos) (tC (clsV X.K y)) := by
  rcases h with ⟨rfl, g, m⟩ | ⟨h, g⟩
  · unfold clsV
    rw [if_pos rfl]
    exact pe_bltn g m (by decide +kernel) rfl
  · have hne : y ≠ "ValueError" := fun e => by rw [e, f.nv] at h; cases h
    unfold clsV
    rw [if_neg hne]
    exact pe_glob g (f.gl y h) rfl (f.db y h)
theorem ClsN.kit (f : ExF X.K X.mg ex) {c y : Str} (hc : ex.contains c = true) (h : ClsN X ex y) : PySem.W.kitOne X.K (.ref (He.ga X.K c)) (clsU X.K y) = some (decide (y = "ValueError") || decide (c = y)) := by
  rcases h with ⟨rfl, g, m⟩ | ⟨h, g⟩
  · unfold clsU
    rw [if_pos rfl, f.ve c hc]
    simp
  · have hne : y ≠ "ValueError" := fun e => by rw [e, f.nv] at h; cases h
    unfold clsU
    rw [if_neg hne, f.kit c y hc h]
    simp [hne]
theorem kitAny_all (f : ExF X.K X.mg ex) {c : Str} (hc : ex.contains c = true) : ∀ {ys : List Str}, (∀ y ∈ ys, ClsN X ex y) → PySem.W.kitAny X.K (.ref (He.ga X.K c)) (ys.map (clsU X.K)) = some (ys.any fun y => decide (y = "ValueError") || decide (c = y))
  | [], _ => kitAny_nil
  | y :: ys, h => by
    have h1 := ClsN.kit f hc (h y List.mem_cons_self)
    have h2 := kitAny_all f hc (ys := ys) fun z hz => h z (List.mem_cons_of_mem _ hz)
    rw [List.map_cons, List.any_cons]
    cases e : (decide (y = "ValueError") || decide (c = y)) with
    | true =>
      rw [e] at h1
      exact kitAny_cons h1 (fun z => by cases z) (fun _ => by simp)
    | false =>
      rw [e] at h1
      exact kitAny_cons h1 (fun _ => by simpa using h2) (fun z => by cases z)
def nameEs : List (Str × Pos) → List Expr := fun l => l.map fun p => .Name p.1 p.2
theorem pa_names (f : ExF X.K X.mg ex) : ∀ {l : List (Str × Pos)}, (∀ p ∈ l, ClsN X ex p.1) → ∃ t : TA, PA X (nameEs l) t ∧ ∀ σ H (Q : List V → Hp → Prop), Q (l.map fun p => clsV X.K p.1) H → t σ H Q
  | [], _ => ⟨_, pa_nil, fun σ H Q q => q⟩
  | p :: l, h => by
    obtain ⟨t, h1, h2⟩ := pa_names f (l := l) fun q hq => h q (List.mem_cons_of_mem _ hq)
    refine ⟨_, pa_cons (ClsN.pe f (h p List.mem_cons_self)) h1 (starEach_plain rfl), fun σ H Q q => ?_⟩
    show tC (clsV X.K p.1) σ H fun x H1 => t σ H1 fun xs H2 => Q (x :: xs) H2
    exact h2 σ H _ q
theorem SE.isx1 {y : Str} {a : Expr} {fa : EF} {p p2 pos : Pos} (f : ExF X.K X.mg ex) (hg : Gl X "isinstance") (hm : X.mg "isinstance" = none) (hy : ClsN X ex y) (ha : plainE a = true) (sa : SE X W a fa) :
    SE X W (.Call (.Name "isinstance" p) [a, .Name y p2] [] pos) (PL.op1 fa (isxD [y] ex)) := by
  refine SE.op1 (r := fun v H Q => rIsX X.K [v, clsV X.K y] H Q) sa (fun ta pa => ?_) fun da z v H Q e r q => ?_
  · exact pe_callB call_isX hg hm PyProof.Rows.boot_isinstance (pa_cons pa (pa_cons (ClsN.pe f hy) pa_nil (starEach_plain rfl)) (starEach_plain ha)) (by decide) (by decide) (starEach_plain ha) (starAny rfl)
  · cases da <;> simp only [isxD, reduceCtorEq] at e
    rename_i c
    split at e
    next hc =>
      simp only [Option.some.injEq] at e
      subst e
      simp only [RD] at r
      obtain ⟨a0, rfl, h2⟩ := r
      exact ⟨a0, He.ga X.K c, _, _, _, rfl, h2, f.cls c hc, clsV_ok y, ClsN.kit f hc hy, q _ (by simp [D.at])⟩
    next => cases e
theorem SE.isxT {l : List (Str × Pos)} {a : Expr} {fa : EF} {k : Nat} {p p2 pos : Pos} (f : ExF X.K X.mg ex) (hg : Gl X "isinstance") (hm : X.mg "isinstance" = none) (hl : l.length ≤ 1000) (hy : ∀ p ∈ l, ClsN X ex p.1) (ha : plainE a = true) (sa : SE X W a fa) :
    SE X W (.Call (.Name "isinstance" p) [a, .Tuple (nameEs l) k p2] [] pos) (PL.op1 fa (isxD (l.map (·.1)) ex)) := by
  obtain ⟨ta, pa, qa⟩ := sa
  obtain ⟨tn, pn, qn⟩ := pa_names f hy
  refine ⟨_, pe_callB call_isXT hg hm PyProof.Rows.boot_isinstance (pa_cons pa (pa_cons (pe_tup pn) pa_nil (starEach_plain rfl)) (starEach_plain ha)) (by decide) (by decide) (starEach_plain ha) (starAny rfl), fun R H P σ env a Q hp => qa R H P σ env a _ ?_⟩
  unfold PL.op1 at hp
  cases ea : fa env with
  | none => rw [ea] at hp; exact hp
  | some s =>
    cases s with
    | exc c => rw [ea] at hp; exact hp
    | ok x e1 =>
      rw [ea, bnd_ok] at hp
      intro v H1 P1 B1 g1 r1
      cases ex' : x.d with
      | none => rw [ex'] at hp; exact hp.elim
      | some d =>
        cases d <;> simp only [ex', isxD, Option.map_none] at hp <;> try exact hp.elim
        rename_i c
        split at hp
        next hc =>
          simp only [Option.map_some] at hp
          have rd := r1.rd msk_same ex'
          simp only [RD] at rd
          obtain ⟨a0, rfl, h2⟩ := rd
          refine qn σ H1 _ ⟨by rw [List.length_map]; have := lm_line; have : LM = 1000000 := rfl; omega, fun tp htp => ?_⟩
          have h3 : upd H1 tp (.tup (l.map fun p => clsV X.K p.1)) a0 = some (.ext (excPhi (He.ga X.K c) a0)) := by rw [upd_ne (ne_of_none h2 htp)]; exact h2
          have pr : Paired ClsV (l.map fun p => clsV X.K p.1) ((l.map (·.1)).map (clsU X.K)) := by
            have : ∀ l : List (Str × Pos), Paired ClsV (l.map fun p => clsV X.K p.1) ((l.map (·.1)).map (clsU X.K)) := by
              intro l
              induction l with
              | nil => exact .nil
              | cons p l ih => exact .cons (clsV_ok p.1) ih
            exact this l
          refine ⟨a0, He.ga X.K c, tp, _, _, _, rfl, h3, f.cls c hc, upd_same, pr, kitAny_all f hc (ys := l.map (·.1)) (fun y hy' => ?_), ?_⟩
          · obtain ⟨p, hp', rfl⟩ := List.mem_map.mp hy'
            exact hy p hp'
          · exact hp.atom rfl (g1.new a (o := .tup (l.map fun p => clsV X.K p.1)) (B2 := Fp.emp) htp fun q z => z.elim)
        next => exact hp.elim
end
end PL

/-! PL14c: try: one statement; except C as n: the exception is held behind it -/
namespace PL
open PySem PySem.Spec PyProof.Rows L2

/-- what such a clause wishes of an exception of the body: it is tracked from there on -/
def wAd (K : PySem.W.Frag) (c : Value) (i : Nat) (ts : Addr → TS) (Wout : WX) (D : Ends) : WX := fun cls d σ H =>
  ∃ b, PySem.W.exmOne K cls c = some b ∧ (b = true → ∃ C, cls = .ref C ∧ d = none ∧ ∀ a, H a = none →
    ts a { nx := fun σ' H' => D.nx (σ'.set i none) H', rt := D.rt, bk := fun σ' H' => D.bk (σ'.set i none) H', ct := fun σ' H' => D.ct (σ'.set i none) H' } (σ.set i (some (.ref a))) (upd H a (.ext (excPhi C a)))) ∧ (b = false → Wout cls d σ H)
section
variable {X : Cx} {pins : List (Addr × Obj)} {σ : Sl} {H : Hp} {s : Shared}
/-- a known object of an own exception class is tracked -/
theorem inv_adopt {a C : Addr} {oe : Obj} {vs : Array Value} (J : Inv X pins σ H s) (he : s.heap.get? a = some oe) (hz : Zc (.ref C) none oe) (hd : oe.data = .fields vs) (na : H a = none) (nL : a ≠ X.env.locals)
    (n0 : ∀ o, X.s_0.heap.get? a = some o → a ∈ X.ex) (np : ∀ p ∈ X.pn ++ pins, p.1 ≠ a) : Inv X pins σ (upd H a (.ext (excPhi C a))) s := by
  have up : ∀ {b : Addr} {o : HO}, H b = some o → upd H a (.ext (excPhi C a)) b = some o := fun {b o} e => by rw [upd_ne (ne_of_none e na)]; exact e
  refine ⟨J.ok, J.os, J.bare, ⟨J.base.keep, J.base.slot, fun b o e n hx => ?_, J.base.there, fun b xs e => up (J.base.tups b xs e), fun b o u e => up (J.base.frzs b o u e), fun b ps e => let ⟨m, z⟩ := J.base.tbls b ps e; ⟨m, up z⟩⟩, J.loc, J.cell, ?_, fun x c e => ?_, fun p hp => ?_, fun b o e => ?_, J.len⟩
  · have hb : b ≠ a := fun z => by subst z; exact hx (n0 o e)
    rw [upd_ne hb]
    exact J.base.free b o e n hx
  · rw [upd_ne (Ne.symm nL)]; exact J.free
  · have hc : c ≠ a := fun z => by
      subst z
      obtain ⟨v, o, ho, hv⟩ := J.cell x c e
      rw [he] at ho
      cases ho
      rw [hd] at hv
      cases hv
    rw [upd_ne hc]
    exact J.freeC x c e
  · obtain ⟨h1, h2, h3⟩ := J.pin p hp
    exact ⟨h1, by rw [upd_ne (np p hp)]; exact h2, h3⟩
  · by_cases hb : b = a
    · subst hb
      rw [upd_same] at e
      cases e
      exact ⟨⟨oe, vs, he, hz.1, hz.2, hd⟩, ⟨oe, he⟩, fun h1 h2 ⟨o, v, q1, q2⟩ k => ⟨o, v, k o q1, q2⟩⟩
    · rw [upd_ne hb] at e
      exact (J.hok b o e).stay (fun _ _ _ q => q) (fun c q => up q) fun c xs q => up q
theorem inv_toSuite (I : Inv X pins σ H s) (a : Addr) : Inv (X.suite a (X.pn ++ pins)) [] σ H s :=
  ⟨I.ok.suite _ _, I.os, I.bare, I.base, I.loc, I.cell, I.free, I.freeC, fun p hp => I.pin p (by rw [List.append_nil] at hp; exact hp), I.hok, I.len⟩
theorem inv_ofSuite {a : Addr} (I : Inv (X.suite a (X.pn ++ pins)) [] σ H s) (ok : X.Ok) : Inv X pins σ H s :=
  ⟨ok, I.os, I.bare, I.base, I.loc, I.cell, I.free, I.freeC, fun p hp => I.pin p (by rw [List.append_nil]; exact hp), I.hok, I.len⟩
variable {x n : Str} {c : Value} {i : Nat} {body suite : List Stmt} {b₀ : Stmt} {np pos pos' : Pos} {tb : WX → TS} {ts : Addr → TS} {Wout : WX}
theorem ps_try_ad (hs : X.stack = X.env :: X.outer) (hf : X.env.frame = some X.env.locals) (hN : X.N.Nodup) (hi : X.N[i]? = some n) (hln : X.env.kindOf n = some .local) (hc : Names X x c) (tk : Takes X Wout)
    (hb : ∀ (W : WX) (pn : List (Addr × Obj)) (xe : Value → Shared → Prop), Takes (X.tr pn xe) W → PassesOwn (model X.prog X.w) X.A X.env xe → L2.PSs (X.tr pn xe) body (tb W))
    (hsu : ∀ (a : Addr) (pn : List (Addr × Obj)), L2.PSs (X.suite a pn) (b₀ :: suite) (ts a)) :
    L2.PS X (.Try body [.ExceptHandler (some (.Name x np)) (some n) (b₀ :: suite) pos'] [] [] pos) (fun D σ H => tb (wAd X.K c i ts Wout D) D σ H) := by
  refine ⟨fun pins s σ H D I h => ?_⟩
  have ok := I.ok
  have hfr : X.A.frames = some (X.env :: X.outer) := by rw [ok.frames, hs]
  refine wpAny_Try_except (wpAny_mono ((hb (wAd X.K c i ts Wout D) (X.pn ++ pins) (fun e s₁ => wpAny (model X.prog X.w) X.A (noteFrame e X.env) (fun _ s₂ => wpAny (model X.prog X.w) X.A (setFlight e none) (fun _ s₃ =>
    wpAny (model X.prog X.w) X.A (handleBy e X.env [.ExceptHandler (some (.Name x np)) (some n) (b₀ :: suite) pos']) (L2.SP X pins D) X.xe s₃) X.xe s₂) X.xe s₁) (fun u s' caught => ?_) PassesOwn.looking).run [] s σ H D (I.toTry _) h) (fun f s1 done => ?_) (fun e s1 he => he))
  · obtain ⟨a, B, sI, pins', σ', H', cls, d, rfl, J', nb, up, sky, na, os, ag, b, hb1, hyes, hno⟩ := caught
    have J : Inv X pins σ' H' sI := J'.ofTry ok
    rw [hs] at sky
    refine Sky.land Zc.steady hfr hf sky fun h3 fl3 up3 => ?_
    have J3 : Inv X pins σ' H' { s' with heap := h3 } := J.landed nb fl3.1 (up.trans up3) os ag
    obtain ⟨oe3, vs3, he3, hz3, hd3⟩ := fl3.there
    have nfr : a ∉ frs (X.env :: X.outer) := fun hm => by
      obtain ⟨_, o', e', hnf⟩ := fl3.2.2.1.mem hm
      rw [he3] at e'
      cases e'
      exact hnf _ hd3
    have nL : a ≠ X.env.locals := fun z => nfr (List.mem_filterMap.mpr ⟨X.env, List.mem_cons_self, by rw [hf, z]⟩)
    have nI : sI.heap.get? a = none := by
      cases q : sI.heap.get? a with
      | none => rfl
      | some o =>
        have := nb a o q (by rw [hs]; exact nfr)
        rw [fl3.2.1] at this
        cases this
    refine wpAny_handleBy_cons (codeAny_handlers_test ?_) (by intro q; cases q)
    have LT : PySem.W.Looks (model X.prog X.w) h3 (typeOf (.ref a)) cls := fun A Q E s k q => wpAny_typeOf_ref (k _ _ he3) (by rw [hz3.1]; exact q)
    have LM := PySem.W.exm_one (M := model X.prog X.w) (J3.kIn) LT hb1
    have S3 := inv_toSuite J3 a
    have asked : ∀ {Q : Value → Shared → Prop} {E : Value → Shared → Prop}, Q c { s' with heap := h3 } → wpAny (model X.prog X.w) (X.A.mark (some (.ref a))) (eval (.Name x np) X.env) Q E { s' with heap := h3 } := fun {Q E} q => by
      obtain ⟨hg, hdbg, hm | ⟨hm, hv, hnn⟩⟩ := hc
      · exact ld_glob (X := X.suite a (X.pn ++ pins)) S3 hg hm q hdbg
      · exact ld_blt (X := X.suite a (X.pn ++ pins)) S3 hg hm hv q hnn hdbg
    refine asked (LM.here ?_)
    cases b with
    | true =>
      obtain ⟨C, rfl, rfl, step⟩ := hyes rfl
      refine codeAny_handlers_suite_as (HandSPX.lands_againZ fl3 fun h4 fl4 up4 => ?_)
      have J4 : Inv X pins σ' H' { s' with heap := h4 } := J.landed nb fl4.1 ((up.trans up3).trans up4) os ag
      obtain ⟨oe4, vs4, he4, hz4, hd4⟩ := fl4.there
      have J5 := inv_adopt J4 he4 hz4 hd4 na nL (fun o e => by
        by_cases hx : a ∈ X.ex
        · exact hx
        · obtain ⟨o', e'⟩ := J.base.there a o e hx
          rw [nI] at e'
          cases e') fun p hp e => by
        have := (J.pin p hp).1
        rw [e, nI] at this
        cases this
      refine store_ok (X := X.suite a (X.pn ++ pins)) (v := .ref a) (inv_toSuite J5 a) hN hi (.inl hln) rfl (fun s5 S5 => ?_) (.inr hln)
      refine wpAny_mono ((hsu a (X.pn ++ pins)).run [] s5 _ _ _ S5 (step a na)) (fun f s6 hsp => ?_) (fun _ _ z => False.elim z)
      have end_ : ∀ {σ6 : Sl} {H6 : Hp} {Q : Shared → Prop}, Inv (X.suite a (X.pn ++ pins)) [] σ6 H6 s6 → (∀ s7, Inv X pins (σ6.set i none) H6 s7 → Q s7) →
          wpAny (model X.prog X.w) X.A (do bindName X.env n .none; unbindBehindTheSuite X.env n pos') (fun _ s7 => Q s7) X.xe s6 := fun {σ6 H6 Q} S6 hq => gone_ok (inv_ofSuite S6 ok) hN hi hln hq
      cases f with
      | next => obtain ⟨σ6, H6, S6, q6⟩ := hsp; exact end_ S6 fun s7 J7 => ⟨_, _, J7, q6⟩
      | brk => obtain ⟨σ6, H6, S6, q6⟩ := hsp; exact end_ S6 fun s7 J7 => ⟨_, _, J7, q6⟩
      | cont => obtain ⟨σ6, H6, S6, q6⟩ := hsp; exact end_ S6 fun s7 J7 => ⟨_, _, J7, q6⟩
      | ret u => obtain ⟨v6, σ6, H6, S6, r6, q6⟩ := hsp; exact end_ S6 fun s7 J7 => ⟨_, _, _, J7, r6, q6⟩
    | false =>
      show wpAny _ X.A (handleBy (.ref a) X.env []) _ _ _
      refine wpAny_handleBy_nil ?_
      obtain ⟨k1, k2, k3, oe, vs, T, oT, ts', he, hz, hd, h1, hr⟩ := id fl3
      unfold PySem.passOn
      refine wpAny_bind (wpAny_field he hd h1 ?_)
      rw [if_neg (show ¬ ((Value.ref T == Value.none) = true) from by simp)]
      have out : wpAny (model X.prog X.w) X.A (setFlight (.ref a) X.env.frame) (fun _ s4 => wpAny (model X.prog X.w) X.A (throw (.ref a) : Sem Flow) (L2.SP X pins D) X.xe s4) X.xe { s' with heap := h3 } := by
        rw [hf]
        exact HandSPX.setFlight_upZ fl3 fun h4 hh4 up4 => wpAny_throw (tk _ _ ⟨a, B, sI, pins, σ', H', cls, d, rfl, J, nb, (up.trans up3).trans up4, .inr (.inr (by rw [hs]; exact hh4)), na, os, ag, hno rfl⟩)
      first
        | exact wpAny_bind (wpAny_pure (wpAny_bind out))
        | exact wpAny_bind out
  · cases f with
    | next => obtain ⟨σ', H', J', q⟩ := done; exact wpAny_execs_nil ⟨σ', H', J'.ofTry ok, q⟩
    | brk => obtain ⟨σ', H', J', q⟩ := done; exact ⟨σ', H', J'.ofTry ok, q⟩
    | cont => obtain ⟨σ', H', J', q⟩ := done; exact ⟨σ', H', J'.ofTry ok, q⟩
    | ret u => obtain ⟨v, σ', H', J', r, q⟩ := done; exact ⟨v, σ', H', J'.ofTry ok, r, q⟩
end

/-! ### as a statement that does f -/
/-- .. whose exception leaves the names as they are -/
def SPostX (X : Cx) (W : WX) (F0 : Hp) (R : Fp) (σ : Sl) (r : Option SR) (D : Ends) : Prop := match r with
  | some (.exc c) => ∀ H' C, Same F0 H' → X.mg c = some (.ref C) → W (.ref C) none σ H'
  | r => SPost X W F0 R r D
def SSx (X : Cx) (W : WX) (st : List Stmt) (f : SF) : Prop := ∃ t : TS, L2.PSs X st t ∧ ∀ F0 R H P σ env, At X.K R H P σ env → Same F0 (msk H (Fam.un P)) → ∀ D, SPostX X W F0 R σ (f env) D → t D σ H
def tOfX (X : Cx) (W : WX) (f : SF) : TS := fun D σ H => ∃ F0 R P env, At X.K R H P σ env ∧ Same F0 (msk H (Fam.un P)) ∧ SPostX X W F0 R σ (f env) D
def tOfS (X : Cx) (W : WX) (f : SF) : TS := fun D σ H => ∃ F0 R P env, At X.K R H P σ env ∧ Same F0 (msk H (Fam.un P)) ∧ SPost X W F0 R (f env) D
section
variable {X : Cx} {W : WX} {R B : Fp} {F0 H H' H2 : Hp} {P P' : Nat → Fp} {σ : Sl} {env env' : List OV}
theorem SSx.can {st : List Stmt} {f : SF} (s : SSx X W st f) : L2.PSs X st (tOfX X W f) := by
  obtain ⟨t, p, q⟩ := s
  exact ⟨fun pins s σ H D I ⟨F0, R, P, env, a, h1, h2⟩ => p.run pins s σ H D I (q F0 R H P σ env a h1 D h2)⟩
theorem SSs.can {st : List Stmt} {f : SF} (s : SSs X W st f) : L2.PSs X st (tOfS X W f) := by
  obtain ⟨t, p, q⟩ := s
  exact ⟨fun pins s σ H D I ⟨F0, R, P, env, a, h1, h2⟩ => p.run pins s σ H D I (q F0 R H P σ env a h1 D h2)⟩
theorem sB_postX {t : TE} {f : EF} {k : OV → List OV → Option SR} (q : vSound X W t f) (a : At X.K R H P σ env) (s : Same F0 (msk H (Fam.un P))) {D : Ends} (hp : SPostX X W F0 R σ (sB (f env) k) D) {Q : VK}
    (h : ∀ x e1, f env = some (.ok x e1) → SPostX X W F0 R σ (k x e1) D → ∀ v H' P' B, At X.K (fun q => B q ∨ R q) H' P' σ e1 → (∀ q, B q → ¬ R q) → Same F0 (msk H' fun q => Fam.un P' q ∨ B q) → RO X.K H' (msk H' (own P' fun q => B q ∨ R q)) x v B → Q v H') : t σ H Q := by
  refine q F0 R H P σ env a s Q ?_
  cases e : f env with
  | none => rw [e] at hp; exact hp
  | some r =>
    cases r with
    | exc c => rw [e] at hp; exact hp
    | ok x e1 => rw [e, sB_ok] at hp; exact h x e1 e hp
theorem SSx.drop {e : Expr} {f : EF} {pos : Pos} (hs : swapsWith e none pos.line X.env = pure false) (sv : SV X W e f) : SSx X W [.Expr e pos] (fDrop f) := by
  obtain ⟨t, p, q⟩ := sv
  refine ⟨_, pss_one (ps_expr p hs), fun F0 R H P σ env a s D hp => sB_postX q a s hp fun x e1 _ hp v H' P' B a' dR s' r => ?_⟩
  exact hp σ H' P' ⟨a'.er.mono (Same.refl _) (msk_sub fun q z => z.imp id .inr), fun q z => a'.rd q (.inr z), fun q z w => a'.dj q z (.inr w)⟩ (s'.trans (msk_sub fun q z => .inl z))
theorem SSx.set {y : Str} {py spos : Pos} {i : Nat} {e : Expr} {f : EF} (s : SVA X W y py spos i e f) : SSx X W [.Assign [.Name y py] e spos] (fSet i f) := by
  obtain ⟨t, p, q⟩ := s
  refine ⟨_, pss_one p, fun F0 R H P σ env a s D hp => sB_postX q a s hp fun x e1 _ hp v H' P' B a' dR s' r => ?_⟩
  split at hp
  next h =>
    simp only [Bool.and_eq_true, decide_eq_true_eq] at h
    obtain ⟨a2, s2⟩ := a'.give dR s' h.2 h.1 r
    exact hp _ H' _ a2 s2
  next => exact hp.elim
theorem SSx.if {c : Expr} {a b : List Stmt} {fc : EF} {fa fb : SF} {pos : Pos} (sc : STe X W c fc) (sa : SSx X W a fa) (sb : SSx X W b fb) : SSx X W [.If c a b pos] (fIfS fc fa fb) := by
  obtain ⟨tc, pc, qc⟩ := SVt.of sc
  obtain ⟨ta, pa, qa⟩ := sa
  obtain ⟨tb, pb, qb⟩ := sb
  refine ⟨_, pss_one (ps_if pc pa pb), fun F0 R H P σ env a s D hp => qc F0 R H P σ env a s _ ?_⟩
  unfold fIfS at hp
  cases e : fc env with
  | none => rw [e] at hp; exact hp
  | some r =>
    cases r with
    | exc c => rw [e] at hp; exact hp
    | ok x e1 =>
      rw [e, sB_ok] at hp
      cases x <;> try exact hp.elim
      rename_i d
      cases d <;> try exact hp.elim
      rename_i b
      refine ⟨b, rfl, fun H' P' a' s' => ?_⟩
      cases b with
      | true => exact qa F0 R H' P' σ e1 a' s' D hp
      | false => exact qb F0 R H' P' σ e1 a' s' D hp
/-- what is left of the names behind an exception -/
def OV.keep : OV → OV
  | .fr d => .fr d
  | _ => .hole
def fTry (fb : SF) (ex : List Str) (i : Nat) (fs : SF) : SF := fun env => match fb env with
  | some (.exc c) => if ex.contains c && decide (i < env.length) then (match fs ((env.map OV.keep).set i (.fr (.exc c))) with
      | some (.nx e) => some (.nx (e.set i .hole))
      | some (.ret y) => some (.ret y)
      | _ => none) else none
  | r => r
/-- the names' frozen things, behind an exception -/
theorem At.kept (a : At X.K R H P σ env) (s : Same (msk H (Fam.un P)) H') : At X.K R H' (fun _ => Fp.emp) σ (env.map OV.keep) := by
  have fr : Same (msk H (own P R)) (msk H' (own (fun _ => Fp.emp) R)) := fun q o k => by
    obtain ⟨k1, k2⟩ := msk_some.mp k
    refine msk_some.mpr ⟨fun z => z.elim (fun ⟨_, z⟩ => z.elim) fun z => k1 (.inr z), s q o (msk_some.mpr ⟨fun z => k1 (.inl z), k2⟩)⟩
  refine ⟨⟨⟨fun i j q z => z.elim, fun i q z => z.elim⟩, by rw [List.length_map]; exact a.er.len, fun i x e => ?_⟩, fun q z => ?_, fun q ⟨_, z⟩ => z.elim⟩
  · rw [List.getElem?_map, Option.map_eq_some_iff] at e
    obtain ⟨y, e1, e2⟩ := e
    obtain ⟨n, o, e3, e4⟩ := a.er.at_ i y e1
    subst e2
    cases y with
    | fr d =>
      obtain ⟨v, rfl, r⟩ := e4.ro (by simp)
      simp only [RO] at r
      exact ⟨rfl, some v, e3, OR.of_ro ⟨RD.mono fr _ _ r.1, fun _ z => z⟩⟩
    | hole => exact ⟨rfl, o, e3, OR.hole⟩
    | vw d => exact ⟨rfl, o, e3, OR.hole⟩
    | ol xs => exact ⟨rfl, o, e3, OR.hole⟩
    | ot xs => exact ⟨rfl, o, e3, OR.hole⟩
  · obtain ⟨vs, e⟩ := a.rd q z
    exact ⟨vs, s q _ (msk_some.mpr ⟨fun w => a.dj q w z, e⟩)⟩
theorem SS.try {body suite : List Stmt} {b₀ : Stmt} {fb fs : SF} {ex : List Str} {i : Nat} {n : Str} {np pos pos' : Pos} (f : ExF X.K X.mg ex) (hs : X.stack = X.env :: X.outer) (hf : X.env.frame = some X.env.locals) (hN : X.N.Nodup) (hi : X.N[i]? = some n) (hln : X.env.kindOf n = some .local)
    (hg : Gl X "ChanceError") (tk : Takes X W)
    (hb : ∀ (W : WX) (pn : List (Addr × Obj)) (xe : Value → Shared → Prop), Takes (X.tr pn xe) W → PassesOwn (model X.prog X.w) X.A X.env xe → SSx (X.tr pn xe) W body fb)
    (hsu : ∀ (a : Addr) (pn : List (Addr × Obj)), SSs (X.suite a pn) wF (b₀ :: suite) fs) :
    SS X W (.Try body [.ExceptHandler (some (.Name "ChanceError" np)) (some n) (b₀ :: suite) pos'] [] [] pos) (fTry fb ex i fs) := by
  refine ⟨_, ps_try_ad (tb := fun W => tOfX X W fb) (ts := fun _ => tOfS X wF fs) hs hf hN hi hln ⟨hg, by decide, .inl f.ce⟩ tk (fun W pn xe t o => (hb W pn xe t o).can) (fun a pn => (hsu a pn).can), fun F0 R H P σ env a s D hp => ?_⟩
  refine ⟨msk H (Fam.un P), R, P, env, a, Same.refl _, ?_⟩
  have hp1 := SPost.weak s hp
  unfold fTry at hp1
  cases e : fb env with
  | none => rw [e] at hp1; exact hp1
  | some r =>
    cases r with
    | nx e1 => rw [e] at hp1; exact hp1
    | ret y => rw [e] at hp1; exact hp1
    | exc c =>
      rw [e] at hp1
      intro H' C s' hC
      simp only at hp1
      split at hp1
      next hc =>
        simp only [Bool.and_eq_true, decide_eq_true_eq] at hc
        obtain ⟨hc, hlt⟩ := hc
        rw [f.gl c hc] at hC
        cases hC
        refine ⟨true, f.exm c hc, fun _ => ⟨_, rfl, rfl, fun a0 ha0 => ?_⟩, fun z => by cases z⟩
        have a1 := a.kept s'
        have a2 := a1.grow (same_new (o := .ext (excPhi (He.ga X.K c) a0)) ha0)
        have lt : i < (env.map OV.keep).length := by rw [List.length_map]; exact hlt
        have nown : ¬ own (fun _ => Fp.emp) R a0 := fun z => by
          obtain ⟨vs, k⟩ := a1.out a0 z
          rw [ha0] at k
          cases k
        have a3 : At X.K R (upd H' a0 (.ext (excPhi (He.ga X.K c) a0))) (setF (fun _ => Fp.emp) i Fp.emp) (σ.set i (some (.ref a0))) ((env.map OV.keep).set i (.fr (.exc c))) := by
          have r : RO X.K (upd H' a0 (.ext (excPhi (He.ga X.K c) a0))) (msk (upd H' a0 (.ext (excPhi (He.ga X.K c) a0))) (own (fun _ => Fp.emp) R)) (.fr (.exc c)) (.ref a0) Fp.emp := by
            simp only [RO, RD]
            exact ⟨⟨a0, rfl, msk_some.mpr ⟨nown, upd_same⟩⟩, fun _ z => z⟩
          have er := a2.er.set lt rfl (OR.of_ro r) fun _ _ _ _ z => z
          exact ⟨er.mono (Same.refl _) (msk_sub fun q z => z.imp un_setE id), a2.rd, fun q z => a2.dj q (un_setE z)⟩
        have s3 : Same (msk H (Fam.un P)) (msk (upd H' a0 (.ext (excPhi (He.ga X.K c) a0))) (Fam.un (setF (fun _ => Fp.emp) i Fp.emp))) := fun q o k => by
          have h1 := s' q o k
          refine msk_some.mpr ⟨fun z => ?_, by rw [upd_ne (ne_of_none h1 ha0)]; exact h1⟩
          obtain ⟨_, z⟩ := un_setE z
          exact z.elim
        refine ⟨msk H (Fam.un P), R, _, _, a3, s3, ?_⟩
        cases es : fs ((env.map OV.keep).set i (.fr (.exc c))) with
        | none => rw [es] at hp1; exact hp1.elim
        | some r2 =>
          rw [es] at hp1
          cases r2 with
          | nx e2 =>
            intro σ' H2 P2 a4 s4
            have q := hp1 (σ'.set i none) H2 (setF P2 i Fp.emp)
            by_cases hl2 : i < e2.length
            · refine q ⟨(a4.er.set hl2 rfl OR.hole fun _ _ _ _ z => z).mono (Same.refl _) (msk_sub fun q z => z.imp un_setE id), a4.rd, fun q z => a4.dj q (un_setE z)⟩ (s4.trans (msk_sub fun q z => un_setE z))
            · have e3 : e2.set i .hole = e2 := List.set_eq_of_length_le (by omega)
              have e4 : σ'.set i none = σ' := List.set_eq_of_length_le (by have := a4.er.len; omega)
              rw [e3, e4] at q
              show D.nx (σ'.set i none) H2
              rw [e4]
              have e5 : setF P2 i Fp.emp = P2 := by
                funext j
                unfold setF
                split
                · rename_i hj
                  subst hj
                  funext z
                  exact (propext ⟨fun w => w.elim, fun w => by have := a4.er.fam.lt j z w; omega⟩)
                · rfl
              rw [e5] at q
              exact q a4 s4
          | ret y => exact hp1
          | exc c2 => exact hp1.elim
      next => exact hp1.elim
end
end PL

/-! PL15: expressions as trees, what they do, that they are the text's -/
namespace PL
open PySem PySem.Spec PyProof.Rows L2

mutual
inductive PX where
  | int (i : Int) | bl (b : Bool) | non | str (x : Str)
  | vr (i : Nat) | mv (i : Nat) (p : PP) | fz (i : Nat) (p : PP)
  | ix (a b : PX) | sl (a : PX) (lo hi : PXo)
  | bop (o : O2) (a b : PX) | cop (o : O2) (a b : PX) | chain (o o' : O2) (a b c : PX)
  | neg (a : PX) | not (a : PX) | bo (and : Bool) (a b : PX) | bo1 (a : PX) | ite (c a b : PX)
  | tup (xs : PXs) | lst (xs : PXs) | add (a b : PX) | mul (a b : PX)
  | bi (b : Bi) (xs : PXs) | isi (t : Ti) (a : PX) | call (f : Str) (xs : PXs) | listOf (a : PX) | listRg (a : PX)
  | lc (elt : PX) (tg : Tg) (it : PIx) (c : PXo) (ws : List Nat)
  | st (a : PX) | pv (i : Nat) (p : PP) | srt (a : PX) | dct0 | isx (tup : Bool) (cs ex : List Str) (a : PX)
inductive PXs where
  | nil | cons (a : PX) (r : PXs)
inductive PP where
  | nil | cons (k : PX) (r : PP)
inductive PXo where
  | none | some (a : PX)
inductive PIx where
  | val (a : PX) | rg1 (a : PX) | rg2 (a b : PX) | zip (a b : PX) | rev (a : PX)
end
/-- what the called functions do -/
abbrev Ph := Str → FF
mutual
def PX.ev (Φ : Ph) : PX → EF
  | .int i => fun env => some (.ok (.fr (.int i)) env)
  | .bl b => fun env => some (.ok (.fr (.bl b)) env)
  | .non => fun env => some (.ok (.fr .non) env)
  | .str x => fun env => some (.ok (.fr (.str x)) env)
  | .vr i => fVar i
  | .mv i p => fMv i (p.ev Φ)
  | .fz i p => fFz i (p.ev Φ)
  | .ix a b => fIx (a.ev Φ) (b.ev Φ)
  | .sl a lo hi => fSl (fSt (a.ev Φ)) (lo.ev Φ) (hi.ev Φ)
  | .bop o a b => op2 (a.ev Φ) (b.ev Φ) o.f
  | .cop o a b => op2 (a.ev Φ) (b.ev Φ) o.f
  | .chain o o' a b c => fChain o o' (a.ev Φ) (b.ev Φ) (c.ev Φ)
  | .neg a => op1 (a.ev Φ) fNeg
  | .not a => fNot (a.ev Φ)
  | .bo and a b => fBo and (a.ev Φ) (b.ev Φ)
  | .bo1 a => a.ev Φ
  | .ite c a b => fIf (c.ev Φ) (a.ev Φ) (b.ev Φ)
  | .tup xs => fTup (xs.ev Φ)
  | .lst xs => fLst (xs.ev Φ)
  | .add a b => fAdd (a.ev Φ) (b.ev Φ)
  | .mul a b => fMul (a.ev Φ) (b.ev Φ)
  | .bi b xs => fBi b (xs.ev Φ)
  | .isi t a => op1 (a.ev Φ) t.f
  | .call f xs => fCall (Φ f) (xs.ev Φ)
  | .listOf a => fList (a.ev Φ)
  | .listRg a => fLR1 (a.ev Φ)
  | .lc elt tg it c ws => fLc (it.ev Φ) tg ((c.ev Φ).getD fYes) (elt.ev Φ) ws
  | .st a => fSt (a.ev Φ)
  | .pv i p => fPv i (p.ev Φ)
  | .srt a => fSrt (a.ev Φ)
  | .dct0 => fun env => some (.ok (.fr (.dct [] [])) env)
  | .isx _ cs ex a => op1 (a.ev Φ) (isxD cs ex)
def PXs.ev (Φ : Ph) : PXs → AF
  | .nil => aNil
  | .cons a r => aCons (a.ev Φ) (r.ev Φ)
def PP.ev (Φ : Ph) : PP → List OV → Option (List Int)
  | .nil => fun _ => some []
  | .cons k r => gIx (r.ev Φ) (k.ev Φ)
def PXo.ev (Φ : Ph) : PXo → Option EF
  | .none => none
  | .some a => some (a.ev Φ)
def PIx.ev (Φ : Ph) : PIx → IF
  | .val a => fItV (a.ev Φ)
  | .rg1 a => fItR1 (a.ev Φ)
  | .rg2 a b => fItR2 (aCons (a.ev Φ) (aCons (b.ev Φ) aNil))
  | .zip a b => fItZ (aCons (a.ev Φ) (aCons (b.ev Φ) aNil))
  | .rev a => fItB (a.ev Φ)
end

/-! ### what stands around -/
structure Ct where
  N : List Str
  sc : Scope
  cl : Option (List (Str × NameKind))
  ar : List (Str × Nat)
  bn : List Str
  ex : List Str
  calm : Bool
def Ct.nm (c : Ct) (i : Nat) (x : Str) : Bool := decide (c.N[i]? = some x) && (match c.sc.names.lookup x with
  | some .local => true | some .cell => true | some .free => true | _ => false) && (!(x == ("__debug__" : Str)) && !(x == ("__classdict__" : Str)))
def Ct.gl (c : Ct) (x : Str) : Bool := decide (c.sc.names.lookup x = some .globalImplicit)
def Ct.b (c : Ct) (x : Str) : Bool := c.gl x && c.bn.contains x
/-- a name that may be set -/
def Ct.tn (c : Ct) (i : Nat) (x : Str) : Bool := decide (c.N[i]? = some x) && (match c.sc.names.lookup x with
  | some .local => true
  | some .cell => (match c.cl with
    | none => true
    | some l => l.lookup x == some .cell)
  | _ => false)
def Ct.blk (c : Ct) (scope : Scope) : Ct := { c with sc := relS scope c.sc, cl := some scope.names }
structure Fn1 (P : Program) (w : World) (K : PySem.W.Frag) (mg : Str → Option Value) (base : Heap) (k : Nat) (x : Str) (n : Nat) (φ : FF) : Prop where
  db : (x == ("__debug__" : Str)) = false
  at_ : ∃ f fd ps, mg x = some (.ref f) ∧ PySem.W.keepIn K (.ref f) = true ∧ Binds K fd ps [] ∧ FnOk P w K mg base (L2.CX P w) k f fd ps (spOf K mg n φ)
abbrev Fn0 (X : Cx) (k : Nat) (x : Str) (n : Nat) (φ : FF) : Prop := Fn1 X.prog X.w X.K X.mg X.base k x n φ
/-- an own exception class -/
structure Ex1 (K : PySem.W.Frag) (mg : Str → Option Value) (x : Str) : Prop where
  db : (x == ("__debug__" : Str)) = false
  at_ : ∃ C bmB B newId initId, ExcBaseFacts B newId initId bmB ∧ PySem.W.excIn K C bmB newId = true ∧ mg x = some (.ref C) ∧ PySem.W.keepIn K (.ref C) = true ∧ PySem.W.subIn K (.ref C) (.type "BaseException") = some true ∧ PySem.W.typeIn K (.ref C) = some (.type "type")
structure CtOk (X : Cx) (W : WX) (c : Ct) (Φ : Ph) (k : Nat) : Prop where
  N : X.N = c.N
  nd : c.N.Nodup
  sc : X.env.scope = c.sc
  kind : c.sc.kind = .function
  calm : c.calm = true → X.calm = true
  room : c.calm = true → Room k X.A
  un : X.A.units + 65 < cLine
  fnl : ∀ x, c.sc.names.lookup x = some .cell → (match c.cl with
    | none => true
    | some l => l.lookup x == some .cell) = true → X.fn x = true
  bn : ∀ x, c.bn.contains x = true → X.mg x = none
  fn : ∀ x n, c.ar.lookup x = some n → Fn0 X k x n (Φ x)
  tk : Takes X W
  ex : ∀ x, c.ex.contains x = true → Ex1 X.K X.mg x
  exf : c.ex.isEmpty = false → ExF X.K X.mg c.ex
/-- a class that isinstance may be asked of -/
def Ct.cn (c : Ct) (y : Str) : Bool := (decide (y = "ValueError") && c.b y) || (c.ex.contains y && c.gl y)
def toNames : List Expr → Option (List (Str × Pos))
  | [] => some []
  | .Name x p :: es => (toNames es).map ((x, p) :: ·)
  | _ => none
def wOwn (c : Ct) (ws : List Nat) : List (Str × Nat) := ws.map fun i => ((c.N[i]?).getD Str.empty, i)
theorem wOwn_map {c : Ct} {ws : List Nat} : (wOwn c ws).map (·.2) = ws := by
  unfold wOwn
  rw [List.map_map]
  exact List.map_id' ws
def okTgs (c : Ct) : List Nat → List Expr → Bool
  | [], [] => true
  | i :: is, .Name x _ :: es => c.tn i x && okTgs c is es
  | _, _ => false
def okTg (c : Ct) : Tg → Expr → Bool
  | .n i, .Name x _ => c.tn i x
  | .t is, .Tuple es _ _ => c.calm && okTgs c is es
  | _, _ => false
def plainT : Expr → Bool
  | .BoolOp .. => false | .UnaryOp .Not .. => false | .Compare .. => false | .IfExp .. => false | _ => true
mutual
def PX.ok : PX → Ct → Expr → Bool
  | .int i, c, .Constant (.int j) _ _ => decide (i = j)
  | .bl b, c, .Constant (.bool d) _ _ => b == d
  | .non, c, .Constant .none _ _ => true
  | .str x, c, .Constant (.str y) _ _ => decide (x = y)
  | .vr i, c, .Name x _ => c.nm i x
  | .mv i p, c, e => p.ok c i e
  | .fz i p, c, e => p.ok c i e
  | .ix a b, c, .Subscript x y _ => plainE y && a.ok c x && b.ok c y
  | .sl a lo hi, c, .Subscript x (.Slice l h .none _) _ => a.ok c x && lo.ok c l && hi.ok c h
  | .bop o a b, c, .BinOp x op y _ => decide (o.bop = some op) && a.ok c x && b.ok c y
  | .cop o a b, c, .Compare x [op] [y] _ => decide (o.cop = some op) && !behindInMarks op y && a.ok c x && b.ok c y
  | .chain o o' a b d, c, .Compare x [op, op'] [y, z] _ => decide (o.cop = some op) && decide (o'.cop = some op') && !lastMarks [op, op'] [y, z] && a.ok c x && b.ok c y && d.ok c z
  | .neg a, c, .UnaryOp .USub x _ => a.ok c x
  | .not a, c, .UnaryOp .Not x _ => a.ok c x
  | .bo and a b, c, .BoolOp op (x :: y :: r) pos => decide (op = if and then .And else .Or) && a.ok c x && b.ok c (.BoolOp op (y :: r) pos)
  | .bo1 a, c, .BoolOp op [x] _ => a.ok c x
  | .ite t a b, c, .IfExp x y z _ => t.ok c x && a.ok c y && b.ok c z
  | .tup xs, c, .Tuple es _ _ => xs.ok c es
  | .lst xs, c, .List es _ => xs.ok c es
  | .add a b, c, .BinOp x .Add y _ => a.ok c x && b.ok c y
  | .mul a b, c, .BinOp x .Mult y _ => a.ok c x && b.ok c y
  | .bi b xs, c, .Call (.Name x _) (e :: es) [] _ => decide (x = b.name) && c.b x && (e :: es).all plainE && xs.ok c (e :: es) && c.calm
  | .isi t a, c, .Call (.Name x _) [e, .Name y _] [] _ => decide (x = "isinstance") && decide (y = t.name) && c.b x && c.b y && plainE e && a.ok c e
  | .call f xs, c, .Call (.Name x _) (e :: es) [] _ => decide (x = f) && c.gl x && decide (c.ar.lookup x = some (e :: es).length) && (e :: es).all plainE && xs.ok c (e :: es) && c.calm
  | .listOf a, c, .Call (.Name x _) [e] [] _ => decide (x = "list") && c.b x && plainE e && a.ok c e
  | .listRg a, c, .Call (.Name x _) [.Call (.Name y _) [e] [] _] [] _ => decide (x = "list") && decide (y = "range") && c.b x && c.b y && plainE e && a.ok c e && c.calm
  | .lc elt tg it d ws, c, .ListComp el [⟨tge, iter, ifs, 0⟩] scope _ => it.ok c tge iter && blkC c.N c.sc scope (wOwn c ws) && okTg (c.blk scope) tg tge && (match ifs with
      | [] => d.isN
      | [x] => d.okS (c.blk scope) x
      | _ => false) && elt.ok (c.blk scope) el && tg.ix.all (fun i => ws.contains i) && c.calm
  | .st a, c, e => a.ok c e && plainT e
  | .pv i p, c, e => p.ok c i e
  | .srt a, c, .Call (.Name x _) [e] [] _ => decide (x = "sorted") && c.b x && plainE e && a.ok c e
  | .dct0, c, .Dict [] [] _ => true
  | .isx false cs ex a, c, .Call (.Name x _) [e, .Name y _] [] _ => decide (x = "isinstance") && decide (cs = [y]) && decide (ex = c.ex) && !c.ex.isEmpty && c.b x && c.cn y && plainE e && a.ok c e
  | .isx true cs ex a, c, .Call (.Name x _) [e, .Tuple es _ _] [] _ => decide (x = "isinstance") && decide ((toNames es).map (·.map (·.1)) = some cs) && decide (ex = c.ex) && !c.ex.isEmpty && c.b x && cs.all c.cn && decide (cs.length ≤ 1000) && plainE e && a.ok c e
  | _, _, _ => false
def PXs.ok : PXs → Ct → List Expr → Bool
  | .nil, c, [] => true
  | .cons a r, c, e :: es => plainE e && a.ok c e && r.ok c es
  | _, _, _ => false
def PP.ok : PP → Ct → Nat → Expr → Bool
  | .nil, c, i, .Name x _ => c.nm i x
  | .cons k r, c, i, .Subscript x y _ => plainE y && r.ok c i x && k.ok c y
  | _, _, _, _ => false
def PXo.ok : PXo → Ct → Option Expr → Bool
  | .none, c, .none => true
  | .some a, c, .some e => a.ok c e
  | _, _, _ => false
def PXo.isN : PXo → Bool
  | .none => true
  | .some _ => false
def PXo.okS : PXo → Ct → Expr → Bool
  | .none, c, e => false
  | .some a, c, e => a.ok c e
def PIx.ok : PIx → Ct → Expr → Expr → Bool
  | .val a, c, tg, e => a.ok c e && (match e with
      | .Set .. => false
      | _ => true)
  | .rg1 a, c, tg, e => (match e with
      | .Call (.Name x _) [e] [] _ => decide (x = "range") && c.b x && plainE e && a.ok c e
      | _ => false)
  | .rg2 a b, c, tg, e => (match e with
      | .Call (.Name x _) [e, e'] [] _ => decide (x = "range") && c.b x && plainE e && plainE e' && a.ok c e && b.ok c e'
      | _ => false)
  | .zip a b, c, tg, e => (match tg, e with
      | .Tuple _ _ _, .Call (.Name x _) [e, e'] [] _ => decide (x = "zip") && c.b x && plainE e && plainE e' && a.ok c e && b.ok c e'
      | _, _ => false)
  | .rev a, c, tg, e => (match e with
      | .Call (.Name x _) [e] [] _ => decide (x = "reversed") && c.b x && plainE e && a.ok c e
      | _ => false)
end

section
variable {X : Cx} {W : WX} {c : Ct} {Φ : Ph} {k : Nat}
theorem CtOk.name (o : CtOk X W c Φ k) {i : Nat} {x : Str} {pos : Pos} (h : c.nm i x = true) : PE X (.Name x pos) (tVar i) := by
  simp only [Ct.nm, Bool.and_eq_true, decide_eq_true_eq, Bool.not_eq_true'] at h
  obtain ⟨⟨h1, h2⟩, h3, h4⟩ := h
  refine pe_var (by rw [o.N]; exact h1) ?_ h3 h4
  unfold Vis
  rw [o.sc]
  split at h2
  · exact .inl (by assumption)
  · exact .inr (.inl (by assumption))
  · exact .inr (.inr (by assumption))
  · cases h2
theorem CtOk.gl (o : CtOk X W c Φ k) {x : Str} (h : c.gl x = true) : Gl X x := by
  show X.env.scope.names.lookup x = _
  rw [o.sc]
  exact of_decide_eq_true h
theorem CtOk.b (o : CtOk X W c Φ k) {x : Str} (h : c.b x = true) : Gl X x ∧ X.mg x = none := by
  simp only [Ct.b, Bool.and_eq_true] at h
  exact ⟨o.gl h.1, o.bn x h.2⟩
theorem CtOk.tn (o : CtOk X W c Φ k) {i : Nat} {x : Str} (h : c.tn i x = true) : X.N.Nodup ∧ X.N[i]? = some x ∧ L2.Loc X.env.scope x ∧ (X.fn x = true ∨ X.env.scope.names.lookup x = some .local) := by
  simp only [Ct.tn, Bool.and_eq_true, decide_eq_true_eq] at h
  obtain ⟨h1, h2⟩ := h
  unfold L2.Loc
  rw [o.N, o.sc]
  refine ⟨o.nd, h1, ?_⟩
  split at h2
  · exact ⟨.inl (by assumption), .inr (by assumption)⟩
  · rename_i e
    exact ⟨.inr e, .inl (o.fnl x e h2)⟩
  · cases h2
theorem CtOk.units (o : CtOk X W c Φ k) : X.A.units + 65 < cLine := o.un
theorem CtOk.blk (o : CtOk X W c Φ k) {scope : Scope} {own : List (Str × Nat)} (b : BlkOk X.N X.env.scope scope own) (s : Shared) (H : Hp) (C : Addr) (cl : List (Str × Addr)) (fp : List Addr) :
    CtOk (X.blk s H scope (compEnvC scope cl C X.env) fp) wF (c.blk scope) Φ k where
  N := o.N
  nd := o.nd
  sc := by
    show relS scope X.env.scope = relS scope c.sc
    rw [o.sc]
  kind := b.kind
  calm := o.calm
  room := o.room
  un := o.un
  exf := o.exf
  fnl := fun x _ h => h
  bn := o.bn
  fn := fun x n h => let q := o.fn x n h; ⟨q.db, q.at_⟩
  ex := o.ex
  tk := fun u s' ⟨_, _, _, _, _, _, _, _, _, _, _, _, _, _, _, _, z⟩ => z.elim
theorem CtOk.fnAt (o : CtOk X W c Φ k) {x : Str} {n : Nat} (h : c.ar.lookup x = some n) (g : c.gl x = true) (hc : c.calm = true) : Fn X k x n (Φ x) :=
  let q := o.fn x n h; ⟨o.gl g, q.db, o.room hc, q.at_⟩
theorem CtOk.cn (o : CtOk X W c Φ k) {y : Str} (h : c.cn y = true) : ClsN X c.ex y := by
  simp only [Ct.cn, Bool.or_eq_true, Bool.and_eq_true, decide_eq_true_eq] at h
  rcases h with ⟨h1, h2⟩ | ⟨h1, h2⟩
  · subst h1
    obtain ⟨g, m⟩ := o.b h2
    exact .inl ⟨rfl, g, m⟩
  · exact .inr ⟨h1, o.gl h2⟩
theorem toNames_ok : ∀ {es : List Expr} {l : List (Str × Pos)}, toNames es = some l → es = nameEs l
  | [], l, h => by simp only [toNames, Option.some.injEq] at h; subst h; rfl
  | e :: es, l, h => by
    cases e <;> simp only [toNames, reduceCtorEq, Option.map_eq_some_iff] at h
    obtain ⟨l', h1, h2⟩ := h
    subst h2
    rw [toNames_ok h1]
    rfl
theorem okTgs_sound (o : CtOk X W c Φ k) : ∀ {is : List Nat} {es : List Expr}, okTgs c is es = true → SGs X es is ∧ es.length = is.length ∧ (assignEach es X.env).length = es.length ∧ (assignEach es X.env).findIdx? (·.1) = none
  | [], [], h => ⟨SGs.nil, rfl, rfl, rfl⟩
  | [], e :: es, h => by simp [okTgs] at h
  | i :: is, [], h => by simp [okTgs] at h
  | i :: is, e :: es, h => by
    cases e <;> simp only [okTgs, Bool.false_eq_true, Bool.and_eq_true] at h
    obtain ⟨h1, h2⟩ := h
    obtain ⟨q1, q2, q3, q4⟩ := okTgs_sound o h2
    obtain ⟨t1, t2, t3, t4⟩ := o.tn h1
    refine ⟨SGs.cons t1 t2 t3 t4 q1, by simp [q2], by simp [assignEach, q3], ?_⟩
    simp only [assignEach, List.findIdx?_cons, Bool.false_eq_true, if_false, q4, Option.map_none]
theorem okTg_sound (o : CtOk X W c Φ k) {tg : Tg} {e : Expr} (h : okTg c tg e = true) : SG X e tg := by
  cases tg with
  | n i =>
    cases e <;> simp only [okTg, Bool.false_eq_true] at h
    obtain ⟨t1, t2, t3, t4⟩ := o.tn h
    exact SG.name t1 t2 t3 t4
  | t is =>
    cases e <;> simp only [okTg, Bool.false_eq_true, Bool.and_eq_true] at h
    obtain ⟨q1, q2, q3, q4⟩ := okTgs_sound o h.2
    exact SG.tup (o.calm h.1) q2 q1 q3 q4
theorem SE.never {e : Expr} : SE X W e (fun _ => none) := ⟨fun _ _ _ => False, ⟨fun _ _ _ _ _ _ h => h.elim⟩, fun _ _ _ _ _ _ _ h => h.elim⟩
theorem evs_length {Φ : Ph} {c : Ct} : ∀ {xs : PXs} {es : List Expr} {env e1 : List OV} {ys : List OV}, xs.ok c es = true → xs.ev Φ env = some (.ok ys e1) → ys.length = es.length
  | .nil, [], env, e1, ys, h, e => by simp only [PXs.ev, aNil, Option.some.injEq, OuA.ok.injEq] at e; rw [← e.1]; rfl
  | .nil, _ :: _, env, e1, ys, h, e => by simp [PXs.ok] at h
  | .cons a r, [], env, e1, ys, h, e => by simp [PXs.ok] at h
  | .cons a r, x :: es, env, e1, ys, h, e => by
    simp only [PXs.ok, Bool.and_eq_true] at h
    simp only [PXs.ev, aCons] at e
    cases ea : a.ev Φ env with
    | none => rw [ea] at e; cases e
    | some s =>
      cases s with
      | exc cc => rw [ea] at e; cases e
      | ok z e2 =>
        rw [ea, bndC_ok] at e
        cases er : r.ev Φ e2 with
        | none => rw [er] at e; cases e
        | some s =>
          cases s with
          | exc cc => rw [er] at e; cases e
          | ok zs e3 =>
            rw [er, bndCA_ok] at e
            simp only [Option.some.injEq, OuA.ok.injEq] at e
            rw [← e.1, List.length_cons, List.length_cons, evs_length h.2 er]
theorem foldedSet_plain {e : Expr} {env : Env} (h : (match e with | .Set .. => false | _ => true) = true) : ∀ x, foldedSetIterable e env x = pure x := by
  intro x
  cases e <;> first | rfl | (simp at h)
/-- what a test may be read as a value -/
theorem isTrue_plain {e : Expr} {env : Env} (h : plainT e = true) : ∀ whole, isTrue e env whole = (do let v ← whole; standAt e.pos; holding [v] (truthy v)) := by
  intro w
  cases e <;> first | rfl | (simp [plainT] at h; done) | skip
  · rename_i op a pos
    cases op <;> first | rfl | (simp [plainT] at h)

theorem STe.ite {c a b : Expr} {fc fa fb : EF} {pos : Pos} (sc : STe X W c fc) (sa : STe X W a fa) (sb : STe X W b fb) : STe X W (.IfExp c a b pos) (fIf fc fa fb) := by
  obtain ⟨tc, pc, qc⟩ := sc
  obtain ⟨ta, pa, qa⟩ := sa
  obtain ⟨tb, pb, qb⟩ := sb
  refine ⟨fun σ H Q => tc σ H fun d H1 => if d = true then ta σ H1 Q else tb σ H1 Q, ⟨fun pins s σ H Q I h => PyProof.Rows.isTrue_IfExp (thn (pc.run pins s σ H _ I h) fun d s1 ⟨H1, I1, q1⟩ => ?_)⟩, fun R H P σ env at_ Q hp => qc R H P σ env at_ _ ?_⟩
  · cases d with
    | true =>
      rw [if_pos rfl] at q1 ⊢
      exact pa.run pins s1 σ H1 _ I1 q1
    | false =>
      rw [if_neg (by simp)] at q1 ⊢
      exact pb.run pins s1 σ H1 _ I1 q1
  · refine fIf_inv (fc := fc) (fa := fa) (fb := fb) (env := env) (fun e => ?_) (fun c e e' => ?_) (fun b e1 e e' => ?_)
    · rw [e] at hp; exact hp.elim
    · rw [e'] at hp; rw [e]; exact hp
    · rw [e'] at hp; rw [e]
      refine ⟨b, rfl, fun H' P' g => ?_⟩
      cases b with
      | true =>
        rw [if_pos rfl] at hp ⊢
        exact qa _ _ _ _ _ (g.at0 at_) _ (hp.go at_ g)
      | false =>
        rw [if_neg (by simp)] at hp ⊢
        exact qb _ _ _ _ _ (g.at0 at_) _ (hp.go at_ g)
def PX.isT : PX → Bool
  | .not _ => true | .cop .. => true | .chain .. => true | .bo .. => true | .bo1 _ => true | .ite .. => true | _ => false
theorem okT_plain {p : PX} {c : Ct} {e : Expr} (h : p.ok c e = true) (ht : p.isT = false) : plainT e = true := by
  by_cases hst : ∃ a, p = .st a
  · obtain ⟨a, rfl⟩ := hst
    simp only [PX.ok, Bool.and_eq_true] at h
    exact h.2
  by_cases hix : ∃ t cs ex a, p = .isx t cs ex a
  · obtain ⟨t, cs, ex, a, rfl⟩ := hix
    cases e <;> first | rfl | (exfalso; cases t <;> simp [PX.ok] at h)
  cases e <;> first | rfl | skip
  · exfalso; cases p <;> first | (exact hst ⟨_, rfl⟩) | (exact hix ⟨_, _, _, _, rfl⟩) | (simp [PX.isT] at ht; done) | (simp [PX.ok] at h; done) | (simp only [PX.ok] at h; rename_i pp; cases pp <;> simp [PP.ok] at h)
  · rename_i op a pos
    cases op <;> first | rfl | skip
    exfalso; cases p <;> first | (exact hst ⟨_, rfl⟩) | (exact hix ⟨_, _, _, _, rfl⟩) | (simp [PX.isT] at ht; done) | (simp [PX.ok] at h; done) | (simp only [PX.ok] at h; rename_i pp; cases pp <;> simp [PP.ok] at h)
  · exfalso; cases p <;> first | (exact hst ⟨_, rfl⟩) | (exact hix ⟨_, _, _, _, rfl⟩) | (simp [PX.isT] at ht; done) | (simp [PX.ok] at h; done) | (simp only [PX.ok] at h; rename_i pp; cases pp <;> simp [PP.ok] at h)
  · exfalso; cases p <;> first | (exact hst ⟨_, rfl⟩) | (exact hix ⟨_, _, _, _, rfl⟩) | (simp [PX.isT] at ht; done) | (simp [PX.ok] at h; done) | (simp only [PX.ok] at h; rename_i pp; cases pp <;> simp [PP.ok] at h)
theorem ok_find {α : Type} {p : Prop} (h : false = true) : p := by cases h
theorem PIx.noSet (p : PIx) (c : Ct) (tg : Expr) (es : List Expr) (k : Nat) (pos : Pos) : p.ok c tg (.Set es k pos) = false := by
  cases p with
  | val a => simp [PIx.ok]
  | rg1 a => simp [PIx.ok]
  | rg2 a b => simp [PIx.ok]
  | zip a b => cases tg <;> simp [PIx.ok]
  | rev a => simp [PIx.ok]
theorem PIx.setOk (p : PIx) {X : Cx} {c : Ct} {tg e : Expr} (h : p.ok c tg e = true) : ∀ x, foldedSetIterable e X.env x = pure x := by
  refine foldedSet_plain ?_
  split
  · rw [PIx.noSet] at h; cases h
  · rfl
mutual
theorem PX.sound : ∀ (p : PX) {X : Cx} {W : WX} {c : Ct} {Φ : Ph} {k : Nat} {e : Expr}, CtOk X W c Φ k → p.ok c e = true → SE X W e (p.ev Φ)
  | .int i, X, W, c, Φ, k, e, o, h => by
    cases e <;> try (simp only [PX.ok, Bool.false_eq_true] at h)
    rename_i cc _ _
    cases cc <;> simp only [PX.ok, Bool.false_eq_true, decide_eq_true_eq] at h
    subst h
    exact SE.atom rfl pe_int
  | .bl b, X, W, c, Φ, k, e, o, h => by
    cases e <;> try (simp only [PX.ok, Bool.false_eq_true] at h)
    rename_i cc _ _
    cases cc <;> simp only [PX.ok, Bool.false_eq_true, beq_iff_eq] at h
    subst h
    exact SE.atom rfl pe_bl
  | .non, X, W, c, Φ, k, e, o, h => by
    cases e <;> try (simp only [PX.ok, Bool.false_eq_true] at h)
    rename_i cc _ _
    cases cc <;> simp only [PX.ok, Bool.false_eq_true] at h
    exact SE.atom rfl pe_non
  | .str x, X, W, c, Φ, k, e, o, h => by
    cases e <;> try (simp only [PX.ok, Bool.false_eq_true] at h)
    rename_i cc _ _
    cases cc <;> simp only [PX.ok, Bool.false_eq_true, decide_eq_true_eq] at h
    subst h
    exact SE.atom rfl pe_str
  | .vr i, X, W, c, Φ, k, e, o, h => by
    cases e <;> simp only [PX.ok, Bool.false_eq_true] at h
    exact SE.var (o.name h)
  | .mv i p, X, W, c, Φ, k, e, o, h => by
    simp only [PX.ok] at h
    exact SE.mv (PP.sound p o h)
  | .fz i p, X, W, c, Φ, k, e, o, h => by
    simp only [PX.ok] at h
    exact SE.fz (PP.sound p o h)
  | .ix a b, X, W, c, Φ, k, e, o, h => by
    cases e <;> simp only [PX.ok, Bool.false_eq_true, Bool.and_eq_true] at h
    exact SE.ix (by have := o.units; omega) (plainIx_of h.1.1) (noSl_of h.1.1) (PX.sound a o h.1.2) (PX.sound b o h.2)
  | .sl a lo hi, X, W, c, Φ, k, e, o, h => by
    cases e <;> try (simp only [PX.ok, Bool.false_eq_true] at h)
    rename_i x s _
    cases s <;> try (simp only [PX.ok, Bool.false_eq_true] at h)
    rename_i l hh st _
    cases st <;> simp only [PX.ok, Bool.false_eq_true, Bool.and_eq_true] at h
    exact SE.sl (PX.sound a o h.1.1).st (PXo.sound lo o h.1.2) (PXo.sound hi o h.2)
  | .bop q a b, X, W, c, Φ, k, e, o, h => by
    cases e <;> simp only [PX.ok, Bool.false_eq_true, Bool.and_eq_true, decide_eq_true_eq] at h
    exact SE.bop h.1.1 (PX.sound a o h.1.2) (PX.sound b o h.2)
  | .cop q a b, X, W, c, Φ, k, e, o, h => by
    cases e <;> try (simp only [PX.ok, Bool.false_eq_true] at h)
    rename_i x ops bs _
    match ops, bs, h with
    | [op], [y], h =>
      simp only [PX.ok, Bool.and_eq_true, decide_eq_true_eq, Bool.not_eq_true'] at h
      exact SE.cop o.units h.1.1.1 h.1.1.2 (PX.sound a o h.1.2) (PX.sound b o h.2)
    | [], _, h => simp [PX.ok] at h
    | _ :: _ :: _, _, h => simp [PX.ok] at h
    | [_], [], h => simp [PX.ok] at h
    | [_], _ :: _ :: _, h => simp [PX.ok] at h
  | .chain q q' a b d, X, W, c, Φ, k, e, o, h => by
    cases e <;> try (simp only [PX.ok, Bool.false_eq_true] at h)
    rename_i x ops bs _
    match ops, bs, h with
    | [op, op'], [y, z], h =>
      simp only [PX.ok, Bool.and_eq_true, decide_eq_true_eq, Bool.not_eq_true'] at h
      exact SE.chain o.units h.1.1.1.1.1 h.1.1.1.1.2 h.1.1.1.2 (PX.sound a o h.1.1.2) (PX.sound b o h.1.2) (PX.sound d o h.2)
    | [], _, h => simp [PX.ok] at h
    | [_], _, h => simp [PX.ok] at h
    | _ :: _ :: _ :: _, _, h => simp [PX.ok] at h
    | [_, _], [], h => simp [PX.ok] at h
    | [_, _], [_], h => simp [PX.ok] at h
    | [_, _], _ :: _ :: _ :: _, h => simp [PX.ok] at h
  | .neg a, X, W, c, Φ, k, e, o, h => by
    cases e <;> try (simp only [PX.ok, Bool.false_eq_true] at h)
    rename_i op x _
    cases op <;> simp only [PX.ok, Bool.false_eq_true] at h
    exact SE.neg (PX.sound a o h)
  | .not a, X, W, c, Φ, k, e, o, h => by
    cases e <;> try (simp only [PX.ok, Bool.false_eq_true] at h)
    rename_i op x _
    cases op <;> simp only [PX.ok, Bool.false_eq_true] at h
    exact SE.not (PX.sound a o h)
  | .bo and a b, X, W, c, Φ, k, e, o, h => by
    cases e <;> try (simp only [PX.ok, Bool.false_eq_true] at h)
    rename_i op es pos
    match es, h with
    | x :: y :: r, h =>
      simp only [PX.ok, Bool.and_eq_true, decide_eq_true_eq] at h
      have h1 := h.1.1
      subst h1
      exact SE.bo (PX.sound a o h.1.2) (PX.sound b o h.2)
    | [], h => simp [PX.ok] at h
    | [_], h => simp [PX.ok] at h
  | .bo1 a, X, W, c, Φ, k, e, o, h => by
    cases e <;> try (simp only [PX.ok, Bool.false_eq_true] at h)
    rename_i op es pos
    match es, h with
    | [x], h =>
      simp only [PX.ok] at h
      exact SE.bo1 (PX.sound a o h)
    | [], h => simp [PX.ok] at h
    | _ :: _ :: _, h => simp [PX.ok] at h
  | .ite t a b, X, W, c, Φ, k, e, o, h => by
    cases e <;> simp only [PX.ok, Bool.false_eq_true, Bool.and_eq_true] at h
    exact SE.ite (PX.soundT t o h.1.1) (PX.sound a o h.1.2) (PX.sound b o h.2)
  | .tup xs, X, W, c, Φ, k, e, o, h => by
    cases e <;> simp only [PX.ok, Bool.false_eq_true] at h
    exact SE.tup (PXs.sound xs o h)
  | .lst xs, X, W, c, Φ, k, e, o, h => by
    cases e <;> simp only [PX.ok, Bool.false_eq_true] at h
    exact SE.lst (PXs.sound xs o h)
  | .add a b, X, W, c, Φ, k, e, o, h => by
    cases e <;> try (simp only [PX.ok, Bool.false_eq_true] at h)
    rename_i x op y _
    cases op <;> simp only [PX.ok, Bool.false_eq_true, Bool.and_eq_true] at h
    exact SE.add (PX.sound a o h.1) (PX.sound b o h.2)
  | .mul a b, X, W, c, Φ, k, e, o, h => by
    cases e <;> try (simp only [PX.ok, Bool.false_eq_true] at h)
    rename_i x op y _
    cases op <;> simp only [PX.ok, Bool.false_eq_true, Bool.and_eq_true] at h
    exact SE.mul (PX.sound a o h.1) (PX.sound b o h.2)
  | .bi b xs, X, W, c, Φ, k, e, o, h => by
    cases e <;> try (simp only [PX.ok, Bool.false_eq_true] at h)
    rename_i f es kws _
    cases f <;> try (simp only [PX.ok, Bool.false_eq_true] at h)
    cases es <;> try (simp only [PX.ok, Bool.false_eq_true] at h)
    cases kws <;> simp only [PX.ok, Bool.false_eq_true, Bool.and_eq_true, decide_eq_true_eq] at h
    have h1 := h.1.1.1.1
    subst h1
    obtain ⟨g, m⟩ := o.b h.1.1.1.2
    exact SE.bi (o.calm h.2) g m h.1.1.2 (PXs.sound xs o h.1.2)
  | .isi t a, X, W, c, Φ, k, e, o, h => by
    cases e <;> try (simp only [PX.ok, Bool.false_eq_true] at h)
    rename_i f es kws _
    cases f <;> try (simp only [PX.ok, Bool.false_eq_true] at h)
    match es, kws, h with
    | [x, .Name y py], [], h =>
      simp only [PX.ok, Bool.and_eq_true, decide_eq_true_eq] at h
      have h1 := h.1.1.1.1.1
      have h2 := h.1.1.1.1.2
      subst h1 h2
      obtain ⟨g, m⟩ := o.b h.1.1.1.2
      obtain ⟨g2, m2⟩ := o.b h.1.1.2
      exact SE.isi g m g2 m2 h.1.2 (PX.sound a o h.2)
  | .call f xs, X, W, c, Φ, k, e, o, h => by
    cases e <;> try (simp only [PX.ok, Bool.false_eq_true] at h)
    rename_i g es kws _
    cases g <;> try (simp only [PX.ok, Bool.false_eq_true] at h)
    cases es <;> try (simp only [PX.ok, Bool.false_eq_true] at h)
    cases kws <;> simp only [PX.ok, Bool.false_eq_true, Bool.and_eq_true, decide_eq_true_eq] at h
    have h1 := h.1.1.1.1.1
    subst h1
    exact SE.call (o.fnAt h.1.1.1.2 h.1.1.1.1.2 h.2) o.tk rfl h.1.1.2 (PXs.sound xs o h.1.2) fun env ys e1 q => evs_length h.1.2 q
  | .listOf a, X, W, c, Φ, k, e, o, h => by
    cases e <;> try (simp only [PX.ok, Bool.false_eq_true] at h)
    rename_i g es kws _
    cases g <;> try (simp only [PX.ok, Bool.false_eq_true] at h)
    match es, kws, h with
    | [x], [], h =>
      simp only [PX.ok, Bool.and_eq_true, decide_eq_true_eq] at h
      have h1 := h.1.1.1
      subst h1
      obtain ⟨g, m⟩ := o.b h.1.1.2
      exact SE.listOf g m h.1.2 (PX.sound a o h.2)
  | .listRg a, X, W, c, Φ, k, e, o, h => by
    cases e <;> try (simp only [PX.ok, Bool.false_eq_true] at h)
    rename_i g es kws _
    cases g <;> try (simp only [PX.ok, Bool.false_eq_true] at h)
    match es, kws, h with
    | [.Call (.Name y py) [x] [] _], [], h =>
      simp only [PX.ok, Bool.and_eq_true, decide_eq_true_eq] at h
      have h1 := h.1.1.1.1.1.1
      have h2 := h.1.1.1.1.1.2
      subst h1 h2
      obtain ⟨g, m⟩ := o.b h.1.1.1.1.2
      obtain ⟨g2, m2⟩ := o.b h.1.1.1.2
      exact SE.listRg1 (o.calm h.2) g m g2 m2 h.1.1.2 (PX.sound a o h.1.2)
  | .lc elt tg it d ws, X, W, c, Φ, k, e, o, h => by
    cases e <;> try (simp only [PX.ok, Bool.false_eq_true] at h)
    rename_i el gens scope pos
    match gens, h with
    | [⟨tge, iter, ifs, 0⟩], h =>
      have hq := lcSound elt tg it d ws o h
      have hcalm : c.calm = true := by
        unfold PX.ok at h
        simp only [Bool.and_eq_true] at h
        exact h.2
      have q := SE.lc (pos := pos) (o.calm hcalm) (by rw [o.N]; exact o.nd) hq
      rw [wOwn_map] at q
      exact q
  | .st a, X, W, c, Φ, k, e, o, h => by
    simp only [PX.ok, Bool.and_eq_true] at h
    exact (PX.sound a o h.1).st
  | .pv i p, X, W, c, Φ, k, e, o, h => by
    simp only [PX.ok] at h
    exact SE.pv (PP.sound p o h)
  | .srt a, X, W, c, Φ, k, e, o, h => by
    cases e <;> try (simp only [PX.ok, Bool.false_eq_true] at h)
    rename_i g es kws _
    cases g <;> try (simp only [PX.ok, Bool.false_eq_true] at h)
    match es, kws, h with
    | [x], [], h =>
      simp only [PX.ok, Bool.and_eq_true, decide_eq_true_eq] at h
      have h1 := h.1.1.1
      subst h1
      obtain ⟨g, m⟩ := o.b h.1.1.2
      exact SE.srt o.un g m h.1.2 (PX.sound a o h.2)
  | .dct0, X, W, c, Φ, k, e, o, h => by
    cases e <;> try (simp only [PX.ok, Bool.false_eq_true] at h)
    rename_i ks vs pos
    match ks, vs, h with
    | [], [], h => exact SE.dct0
  | .isx tup cs ex a, X, W, c, Φ, k, e, o, h => by
    cases e <;> try (cases tup <;> simp only [PX.ok, Bool.false_eq_true] at h)
    rename_i g es kws _
    cases g <;> try (cases tup <;> simp only [PX.ok, Bool.false_eq_true] at h)
    match tup, es, kws, h with
    | false, [x, .Name y py], [], h =>
      simp only [PX.ok, Bool.and_eq_true, decide_eq_true_eq, Bool.not_eq_true'] at h
      obtain ⟨⟨⟨⟨⟨⟨⟨h1, h2⟩, h3⟩, h4⟩, h5⟩, h6⟩, h7⟩, h8⟩ := h
      subst h1 h2 h3
      obtain ⟨g, m⟩ := o.b h5
      exact SE.isx1 (o.exf h4) g m (o.cn h6) h7 (PX.sound a o h8)
    | true, [x, .Tuple ns kk py], [], h =>
      simp only [PX.ok, Bool.and_eq_true, decide_eq_true_eq, Bool.not_eq_true', Option.map_eq_some_iff] at h
      obtain ⟨⟨⟨⟨⟨⟨⟨⟨h1, l, h2, h2'⟩, h3⟩, h4⟩, h5⟩, h6⟩, hl⟩, h7⟩, h8⟩ := h
      subst h1 h3 h2'
      have := toNames_ok h2
      subst this
      obtain ⟨g, m⟩ := o.b h5
      refine SE.isxT (o.exf h4) g m (by simpa using hl) (fun p hp => o.cn (List.all_eq_true.mp h6 p.1 (List.mem_map_of_mem hp))) h7 (PX.sound a o h8)
termination_by p => (sizeOf p, 0)
decreasing_by all_goals (first | decreasing_tactic | (simp_wf; omega))
theorem lcSound (elt : PX) (tg : Tg) (it : PIx) (d : PXo) (ws : List Nat) {X : Cx} {W : WX} {c : Ct} {Φ : Ph} {k : Nat} {el tge iter : Expr} {ifs : List Expr} {scope : Scope} {pos : Pos} (o : CtOk X W c Φ k)
    (h : (PX.lc elt tg it d ws).ok c (.ListComp el [⟨tge, iter, ifs, 0⟩] scope pos) = true) : LcOk X W tge iter el ifs scope (wOwn c ws) (it.ev Φ) tg ((d.ev Φ).getD fYes) (elt.ev Φ) := by
  unfold PX.ok at h
  simp only [Bool.and_eq_true] at h
  obtain ⟨⟨⟨⟨⟨⟨h1, h2⟩, h3⟩, h4⟩, h5⟩, h6⟩, _⟩ := h
  have bk : BlkOk X.N X.env.scope scope (wOwn c ws) := by rw [o.N, o.sc]; exact blkOk_by h2
  refine ⟨PIx.sound it o h1, bk, fun s H C cl fp => okTg_sound (o.blk bk s H C cl fp) h3, ?_, fun s H C cl fp => PX.sound elt (o.blk bk s H C cl fp) h5, PIx.setOk it h1, by rw [wOwn_map]; exact h6⟩
  match ifs, h4 with
  | [], h4 =>
    cases d with
    | none => exact .inl ⟨rfl, rfl⟩
    | some a => cases h4
  | [x], h4 =>
    cases d with
    | none => cases h4
    | some a => exact .inr ⟨x, rfl, fun s H C cl fp => PX.soundT a (o.blk bk s H C cl fp) h4⟩
termination_by (sizeOf elt + sizeOf it + sizeOf d, 1)
decreasing_by all_goals (first | decreasing_tactic | (simp_wf; omega))
theorem PX.soundT : ∀ (p : PX) {X : Cx} {W : WX} {c : Ct} {Φ : Ph} {k : Nat} {e : Expr}, CtOk X W c Φ k → p.ok c e = true → STe X W e (p.ev Φ)
  | .not a, X, W, c, Φ, k, e, o, h => by
    cases e <;> try (simp only [PX.ok, Bool.false_eq_true] at h)
    rename_i op x _
    cases op <;> simp only [PX.ok, Bool.false_eq_true] at h
    exact STe.not (PX.soundT a o h)
  | .cop q a b, X, W, c, Φ, k, e, o, h => by
    cases e <;> try (simp only [PX.ok, Bool.false_eq_true] at h)
    rename_i x ops bs _
    match ops, bs, h with
    | [op], [y], h =>
      simp only [PX.ok, Bool.and_eq_true, decide_eq_true_eq, Bool.not_eq_true'] at h
      exact STe.cop o.units h.1.1.1 h.1.1.2 (PX.sound a o h.1.2) (PX.sound b o h.2)
    | [], _, h => simp [PX.ok] at h
    | _ :: _ :: _, _, h => simp [PX.ok] at h
    | [_], [], h => simp [PX.ok] at h
    | [_], _ :: _ :: _, h => simp [PX.ok] at h
  | .chain q q' a b d, X, W, c, Φ, k, e, o, h => by
    cases e <;> try (simp only [PX.ok, Bool.false_eq_true] at h)
    rename_i x ops bs _
    match ops, bs, h with
    | [op, op'], [y, z], h =>
      simp only [PX.ok, Bool.and_eq_true, decide_eq_true_eq, Bool.not_eq_true'] at h
      exact STe.chain o.units h.1.1.1.1.1 h.1.1.1.1.2 h.1.1.1.2 (PX.sound a o h.1.1.2) (PX.sound b o h.1.2) (PX.sound d o h.2)
    | [], _, h => simp [PX.ok] at h
    | [_], _, h => simp [PX.ok] at h
    | _ :: _ :: _ :: _, _, h => simp [PX.ok] at h
    | [_, _], [], h => simp [PX.ok] at h
    | [_, _], [_], h => simp [PX.ok] at h
    | [_, _], _ :: _ :: _ :: _, h => simp [PX.ok] at h
  | .bo and a b, X, W, c, Φ, k, e, o, h => STe.w (PX.soundW (.bo and a b) o h and (by
      cases e <;> try (simp only [PX.ok, Bool.false_eq_true] at h)
      rename_i op es pos
      match es, h with
      | x :: y :: r, h =>
        simp only [PX.ok, Bool.and_eq_true, decide_eq_true_eq] at h
        exact ⟨_, _, by rw [h.1.1]⟩
      | [], h => simp [PX.ok] at h
      | [_], h => simp [PX.ok] at h))
  | .bo1 a, X, W, c, Φ, k, e, o, h => by
    cases e <;> try (simp only [PX.ok, Bool.false_eq_true] at h)
    rename_i op es pos
    match es, h with
    | [x], h =>
      have h1 : a.ok c x = true := by simpa only [PX.ok] using h
      clear h
      cases op with
      | And => exact STe.w (SWt.one (and := true) (PX.soundT a o h1))
      | Or => exact STe.w (SWt.one (and := false) (PX.soundT a o h1))
    | [], h => simp [PX.ok] at h
    | _ :: _ :: _, h => simp [PX.ok] at h
  | .ite t a b, X, W, c, Φ, k, e, o, h => by
    cases e <;> simp only [PX.ok, Bool.false_eq_true, Bool.and_eq_true] at h
    exact STe.ite (PX.soundT t o h.1.1) (PX.soundT a o h.1.2) (PX.soundT b o h.2)
  | .int i, X, W, c, Φ, k, e, o, h => STe.val (PL.isTrue_plain (okT_plain h rfl)) (PX.sound (.int i) o h)
  | .bl b, X, W, c, Φ, k, e, o, h => STe.val (PL.isTrue_plain (okT_plain h rfl)) (PX.sound (.bl b) o h)
  | .non, X, W, c, Φ, k, e, o, h => STe.val (PL.isTrue_plain (okT_plain h rfl)) (PX.sound (.non) o h)
  | .str x, X, W, c, Φ, k, e, o, h => STe.val (PL.isTrue_plain (okT_plain h rfl)) (PX.sound (.str x) o h)
  | .vr i, X, W, c, Φ, k, e, o, h => STe.val (PL.isTrue_plain (okT_plain h rfl)) (PX.sound (.vr i) o h)
  | .mv i p, X, W, c, Φ, k, e, o, h => STe.val (PL.isTrue_plain (okT_plain h rfl)) (PX.sound (.mv i p) o h)
  | .fz i p, X, W, c, Φ, k, e, o, h => STe.val (PL.isTrue_plain (okT_plain h rfl)) (PX.sound (.fz i p) o h)
  | .ix a b, X, W, c, Φ, k, e, o, h => STe.val (PL.isTrue_plain (okT_plain h rfl)) (PX.sound (.ix a b) o h)
  | .sl a lo hi, X, W, c, Φ, k, e, o, h => STe.val (PL.isTrue_plain (okT_plain h rfl)) (PX.sound (.sl a lo hi) o h)
  | .bop q a b, X, W, c, Φ, k, e, o, h => STe.val (PL.isTrue_plain (okT_plain h rfl)) (PX.sound (.bop q a b) o h)
  | .neg a, X, W, c, Φ, k, e, o, h => STe.val (PL.isTrue_plain (okT_plain h rfl)) (PX.sound (.neg a) o h)
  | .tup xs, X, W, c, Φ, k, e, o, h => STe.val (PL.isTrue_plain (okT_plain h rfl)) (PX.sound (.tup xs) o h)
  | .lst xs, X, W, c, Φ, k, e, o, h => STe.val (PL.isTrue_plain (okT_plain h rfl)) (PX.sound (.lst xs) o h)
  | .add a b, X, W, c, Φ, k, e, o, h => STe.val (PL.isTrue_plain (okT_plain h rfl)) (PX.sound (.add a b) o h)
  | .mul a b, X, W, c, Φ, k, e, o, h => STe.val (PL.isTrue_plain (okT_plain h rfl)) (PX.sound (.mul a b) o h)
  | .bi b xs, X, W, c, Φ, k, e, o, h => STe.val (PL.isTrue_plain (okT_plain h rfl)) (PX.sound (.bi b xs) o h)
  | .isi t a, X, W, c, Φ, k, e, o, h => STe.val (PL.isTrue_plain (okT_plain h rfl)) (PX.sound (.isi t a) o h)
  | .call f xs, X, W, c, Φ, k, e, o, h => STe.val (PL.isTrue_plain (okT_plain h rfl)) (PX.sound (.call f xs) o h)
  | .listOf a, X, W, c, Φ, k, e, o, h => STe.val (PL.isTrue_plain (okT_plain h rfl)) (PX.sound (.listOf a) o h)
  | .listRg a, X, W, c, Φ, k, e, o, h => STe.val (PL.isTrue_plain (okT_plain h rfl)) (PX.sound (.listRg a) o h)
  | .lc elt tg it d ws, X, W, c, Φ, k, e, o, h => STe.val (PL.isTrue_plain (okT_plain h rfl)) (PX.sound (.lc elt tg it d ws) o h)
  | .st a, X, W, c, Φ, k, e, o, h => STe.val (PL.isTrue_plain (okT_plain h rfl)) (PX.sound (.st a) o h)
  | .pv i p, X, W, c, Φ, k, e, o, h => STe.val (PL.isTrue_plain (okT_plain h rfl)) (PX.sound (.pv i p) o h)
  | .srt a, X, W, c, Φ, k, e, o, h => STe.val (PL.isTrue_plain (okT_plain h rfl)) (PX.sound (.srt a) o h)
  | .dct0, X, W, c, Φ, k, e, o, h => STe.val (PL.isTrue_plain (okT_plain h rfl)) (PX.sound (.dct0) o h)
  | .isx tup cs ex a, X, W, c, Φ, k, e, o, h => STe.val (PL.isTrue_plain (okT_plain h rfl)) (PX.sound (.isx tup cs ex a) o h)
termination_by p => (sizeOf p, 2)
decreasing_by all_goals (first | decreasing_tactic | (simp_wf; omega))
theorem PX.soundW : ∀ (p : PX) {X : Cx} {W : WX} {c : Ct} {Φ : Ph} {k : Nat} {e : Expr}, CtOk X W c Φ k → p.ok c e = true → ∀ and : Bool, (∃ es pos, e = .BoolOp (if and then .And else .Or) es pos) → SWt X W e (p.ev Φ)
  | .bo and' a b, X, W, c, Φ, k, e, o, h, and, he => by
    obtain ⟨es, pos, rfl⟩ := he
    match es, h with
    | x :: y :: r, h =>
      simp only [PX.ok, Bool.and_eq_true, decide_eq_true_eq] at h
      have e : and = and' := by
        have := h.1.1
        cases and <;> cases and' <;> first | rfl | (simp at this)
      subst e
      exact SWt.bo (PX.soundT a o h.1.2) (PX.soundW b o h.2 and ⟨_, _, rfl⟩)
    | [], h => simp [PX.ok] at h
    | [_], h => simp [PX.ok] at h
  | .bo1 a, X, W, c, Φ, k, e, o, h, and, he => by
    obtain ⟨es, pos, rfl⟩ := he
    match es, h with
    | [x], h =>
      simp only [PX.ok] at h
      exact SWt.one (PX.soundT a o h)
    | [], h => simp [PX.ok] at h
    | _ :: _ :: _, h => simp [PX.ok] at h
  | .int i, X, W, c, Φ, k, e, o, h, and, he => by
    obtain ⟨es, pos, rfl⟩ := he
    simp [PX.ok] at h
  | .bl b, X, W, c, Φ, k, e, o, h, and, he => by
    obtain ⟨es, pos, rfl⟩ := he
    simp [PX.ok] at h
  | .non, X, W, c, Φ, k, e, o, h, and, he => by
    obtain ⟨es, pos, rfl⟩ := he
    simp [PX.ok] at h
  | .str x, X, W, c, Φ, k, e, o, h, and, he => by
    obtain ⟨es, pos, rfl⟩ := he
    simp [PX.ok] at h
  | .vr i, X, W, c, Φ, k, e, o, h, and, he => by
    obtain ⟨es, pos, rfl⟩ := he
    simp [PX.ok] at h
  | .mv i p, X, W, c, Φ, k, e, o, h, and, he => by
    obtain ⟨es, pos, rfl⟩ := he
    simp only [PX.ok] at h
    cases p <;> simp [PP.ok] at h
  | .fz i p, X, W, c, Φ, k, e, o, h, and, he => by
    obtain ⟨es, pos, rfl⟩ := he
    simp only [PX.ok] at h
    cases p <;> simp [PP.ok] at h
  | .ix a b, X, W, c, Φ, k, e, o, h, and, he => by
    obtain ⟨es, pos, rfl⟩ := he
    simp [PX.ok] at h
  | .sl a lo hi, X, W, c, Φ, k, e, o, h, and, he => by
    obtain ⟨es, pos, rfl⟩ := he
    simp [PX.ok] at h
  | .bop q a b, X, W, c, Φ, k, e, o, h, and, he => by
    obtain ⟨es, pos, rfl⟩ := he
    simp [PX.ok] at h
  | .neg a, X, W, c, Φ, k, e, o, h, and, he => by
    obtain ⟨es, pos, rfl⟩ := he
    simp [PX.ok] at h
  | .tup xs, X, W, c, Φ, k, e, o, h, and, he => by
    obtain ⟨es, pos, rfl⟩ := he
    simp [PX.ok] at h
  | .lst xs, X, W, c, Φ, k, e, o, h, and, he => by
    obtain ⟨es, pos, rfl⟩ := he
    simp [PX.ok] at h
  | .add a b, X, W, c, Φ, k, e, o, h, and, he => by
    obtain ⟨es, pos, rfl⟩ := he
    simp [PX.ok] at h
  | .mul a b, X, W, c, Φ, k, e, o, h, and, he => by
    obtain ⟨es, pos, rfl⟩ := he
    simp [PX.ok] at h
  | .bi b xs, X, W, c, Φ, k, e, o, h, and, he => by
    obtain ⟨es, pos, rfl⟩ := he
    simp [PX.ok] at h
  | .isi t a, X, W, c, Φ, k, e, o, h, and, he => by
    obtain ⟨es, pos, rfl⟩ := he
    simp [PX.ok] at h
  | .call f xs, X, W, c, Φ, k, e, o, h, and, he => by
    obtain ⟨es, pos, rfl⟩ := he
    simp [PX.ok] at h
  | .listOf a, X, W, c, Φ, k, e, o, h, and, he => by
    obtain ⟨es, pos, rfl⟩ := he
    simp [PX.ok] at h
  | .listRg a, X, W, c, Φ, k, e, o, h, and, he => by
    obtain ⟨es, pos, rfl⟩ := he
    simp [PX.ok] at h
  | .lc elt tg it d ws, X, W, c, Φ, k, e, o, h, and, he => by
    obtain ⟨es, pos, rfl⟩ := he
    simp [PX.ok] at h
  | .not a, X, W, c, Φ, k, e, o, h, and, he => by
    obtain ⟨es, pos, rfl⟩ := he
    simp [PX.ok] at h
  | .cop q a b, X, W, c, Φ, k, e, o, h, and, he => by
    obtain ⟨es, pos, rfl⟩ := he
    simp [PX.ok] at h
  | .chain q q' a b d, X, W, c, Φ, k, e, o, h, and, he => by
    obtain ⟨es, pos, rfl⟩ := he
    simp [PX.ok] at h
  | .ite t a b, X, W, c, Φ, k, e, o, h, and, he => by
    obtain ⟨es, pos, rfl⟩ := he
    simp [PX.ok] at h
  | .st a, X, W, c, Φ, k, e, o, h, and, he => by
    obtain ⟨es, pos, rfl⟩ := he
    simp [PX.ok, plainT] at h
  | .pv i p, X, W, c, Φ, k, e, o, h, and, he => by
    obtain ⟨es, pos, rfl⟩ := he
    simp only [PX.ok] at h
    cases p <;> simp [PP.ok] at h
  | .srt a, X, W, c, Φ, k, e, o, h, and, he => by
    obtain ⟨es, pos, rfl⟩ := he
    simp [PX.ok] at h
  | .dct0, X, W, c, Φ, k, e, o, h, and, he => by
    obtain ⟨es, pos, rfl⟩ := he
    simp [PX.ok] at h
  | .isx tup cs ex a, X, W, c, Φ, k, e, o, h, and, he => by
    obtain ⟨es, pos, rfl⟩ := he
    cases tup <;> simp [PX.ok] at h
termination_by p => (sizeOf p, 1)
decreasing_by all_goals (first | decreasing_tactic | (simp_wf; omega))
theorem PXs.sound : ∀ (p : PXs) {X : Cx} {W : WX} {c : Ct} {Φ : Ph} {k : Nat} {es : List Expr}, CtOk X W c Φ k → p.ok c es = true → SA X W es (p.ev Φ)
  | .nil, X, W, c, Φ, k, es, o, h => by
    cases es <;> simp only [PXs.ok, Bool.false_eq_true] at h
    exact SA.nil
  | .cons a r, X, W, c, Φ, k, es, o, h => by
    cases es <;> simp only [PXs.ok, Bool.false_eq_true, Bool.and_eq_true] at h
    exact SA.cons (PX.sound a o h.1.2) (PXs.sound r o h.2) (starEach_plain h.1.1)
termination_by p => (sizeOf p, 0)
decreasing_by all_goals (first | decreasing_tactic | (simp_wf; omega))
theorem PP.sound : ∀ (p : PP) {X : Cx} {W : WX} {c : Ct} {Φ : Ph} {k : Nat} {i : Nat} {e : Expr}, CtOk X W c Φ k → p.ok c i e = true → SPth X i e (p.ev Φ)
  | .nil, X, W, c, Φ, k, i, e, o, h => by
    cases e <;> simp only [PP.ok, Bool.false_eq_true] at h
    exact SPth.name (o.name h)
  | .cons kk r, X, W, c, Φ, k, i, e, o, h => by
    cases e <;> simp only [PP.ok, Bool.false_eq_true, Bool.and_eq_true] at h
    exact SPth.ix (W := W) h.1.1 (PP.sound r o h.1.2) (PX.sound kk o h.2)
termination_by p => (sizeOf p, 0)
decreasing_by all_goals (first | decreasing_tactic | (simp_wf; omega))
theorem PXo.sound : ∀ (p : PXo) {X : Cx} {W : WX} {c : Ct} {Φ : Ph} {k : Nat} {e : Option Expr}, CtOk X W c Φ k → p.ok c e = true → SP' X W e (p.ev Φ)
  | .none, X, W, c, Φ, k, e, o, h => by
    cases e <;> simp only [PXo.ok, Bool.false_eq_true] at h
    trivial
  | .some a, X, W, c, Φ, k, e, o, h => by
    cases e <;> simp only [PXo.ok, Bool.false_eq_true] at h
    exact PX.sound a o h
termination_by p => (sizeOf p, 0)
decreasing_by all_goals (first | decreasing_tactic | (simp_wf; omega))
theorem PIx.sound : ∀ (p : PIx) {X : Cx} {W : WX} {c : Ct} {Φ : Ph} {k : Nat} {tg e : Expr}, CtOk X W c Φ k → p.ok c tg e = true → SI X W tg e (p.ev Φ)
  | .val a, X, W, c, Φ, k, tg, e, o, h => by
    simp only [PIx.ok, Bool.and_eq_true] at h
    exact SI.val (PX.sound a o h.1)
  | .rg1 a, X, W, c, Φ, k, tg, e, o, h => by
    simp only [PIx.ok] at h
    split at h
    · simp only [Bool.and_eq_true, decide_eq_true_eq] at h
      have h1 := h.1.1.1
      subst h1
      obtain ⟨g, m⟩ := o.b h.1.1.2
      exact SI.rg1 g m h.1.2 (PX.sound a o h.2)
    · cases h
  | .rg2 a b, X, W, c, Φ, k, tg, e, o, h => by
    simp only [PIx.ok] at h
    split at h
    · simp only [Bool.and_eq_true, decide_eq_true_eq] at h
      have h1 := h.1.1.1.1.1
      subst h1
      obtain ⟨g, m⟩ := o.b h.1.1.1.1.2
      exact SI.rg2 g m h.1.1.1.2 h.1.1.2 (SA.cons (PX.sound a o h.1.2) (SA.cons (PX.sound b o h.2) SA.nil (starEach_plain h.1.1.2)) (starEach_plain h.1.1.1.2))
    · cases h
  | .zip a b, X, W, c, Φ, k, tg, e, o, h => by
    simp only [PIx.ok] at h
    split at h
    · simp only [Bool.and_eq_true, decide_eq_true_eq] at h
      have h1 := h.1.1.1.1.1
      subst h1
      obtain ⟨g, m⟩ := o.b h.1.1.1.1.2
      exact SI.zip g m h.1.1.1.2 h.1.1.2 (SA.cons (PX.sound a o h.1.2) (SA.cons (PX.sound b o h.2) SA.nil (starEach_plain h.1.1.2)) (starEach_plain h.1.1.1.2))
    · cases h
  | .rev a, X, W, c, Φ, k, tg, e, o, h => by
    simp only [PIx.ok] at h
    split at h
    · simp only [Bool.and_eq_true, decide_eq_true_eq] at h
      have h1 := h.1.1.1
      subst h1
      obtain ⟨g, m⟩ := o.b h.1.1.2
      exact SI.rev g m h.1.2 (PX.sound a o h.2)
    · cases h
termination_by p => (sizeOf p, 0)
decreasing_by all_goals (first | decreasing_tactic | (simp_wf; omega))
end
end
end PL

/-! PL16: statements as trees; functions -/
namespace PL
open PySem PySem.Spec PyProof.Rows L2

inductive PV where
  | ex (e : PX) | callT (f : Str) (xs : PXs) | pop0 (i : Nat) (p : PP) | popAt (i : Nat) (p : PP) (k : PX) | app (i : Nat) (p : PP) (a : PX) | appV (i : Nat) (v : PV) | ins (i : Nat) (p : PP) (k a : PX) | clear (i : Nat) (p : PP)
def PV.ev (Φ : Ph) : PV → EF
  | .ex e => e.ev Φ
  | .callT f xs => fCallT (Φ f) (xs.ev Φ)
  | .pop0 i p => fPop0 i (p.ev Φ)
  | .popAt i p k => fPopAt i (p.ev Φ) (k.ev Φ)
  | .app i p a => fMt i (p.ev Φ) (aCons (a.ev Φ) aNil) gApp
  | .appV i v => fAppV i (v.ev Φ)
  | .ins i p k a => fMt i (p.ev Φ) (aCons (k.ev Φ) (aCons (a.ev Φ) aNil)) gIns
  | .clear i p => fMt i (p.ev Φ) aNil gClear
def nCall : Expr → Bool
  | .Call .. => false
  | _ => true
def PV.ok : PV → Ct → Expr → Bool
  | .ex e, c, z => e.ok c z
  | .callT f xs, c, z => (match z with
      | .Call (.Name x _) (e :: es) [] _ => decide (x = f) && c.gl x && decide (c.ar.lookup x = some (e :: es).length) && (e :: es).all plainE && xs.ok c (e :: es) && c.calm
      | _ => false)
  | .pop0 i p, c, z => (match z with
      | .Call (.Attribute o nm ap) [] [] cp => decide (nm = "pop") && (ap.endLine == cp.line) && nCall o && p.ok c i o
      | _ => false)
  | .popAt i p k, c, z => (match z with
      | .Call (.Attribute o nm ap) [e] [] cp => decide (nm = "pop") && (ap.endLine == cp.line) && nCall o && plainE e && p.ok c i o && k.ok c e
      | _ => false)
  | .app i p a, c, z => (match z with
      | .Call (.Attribute o nm ap) [e] [] cp => decide (nm = "append") && (ap.endLine == cp.line) && nCall o && plainE e && p.ok c i o && a.ok c e
      | _ => false)
  | .appV i v, c, z => (match z with
      | .Call (.Attribute o nm ap) [e] [] cp => decide (nm = "append") && (ap.endLine == cp.line) && nCall o && plainE e && PP.nil.ok c i o && v.ok c e
      | _ => false)
  | .ins i p k a, c, z => (match z with
      | .Call (.Attribute o nm ap) [e, e'] [] cp => decide (nm = "insert") && (ap.endLine == cp.line) && nCall o && plainE e && plainE e' && p.ok c i o && k.ok c e && a.ok c e'
      | _ => false)
  | .clear i p, c, z => (match z with
      | .Call (.Attribute o nm ap) [] [] cp => decide (nm = "clear") && (ap.endLine == cp.line) && nCall o && p.ok c i o
      | _ => false)
inductive PTs where
  | ex (e : PX) | va (v : PV) | not (t : PTs)
def PTs.ev (Φ : Ph) : PTs → EF
  | .ex e => e.ev Φ
  | .va v => v.ev Φ
  | .not t => fNot (t.ev Φ)
def PTs.ok : PTs → Ct → Expr → Bool
  | .ex e, c, z => e.ok c z
  | .va v, c, z => v.ok c z && plainT z
  | .not t, c, z => (match z with
      | .UnaryOp .Not e _ => t.ok c e
      | _ => false)
/-- what stands in a try -/
inductive PB where
  | drop (v : PV) | set (i : Nat) (v : PV) | ite (t : PX) (a b : PB)
mutual
inductive PS where
  | set (i : Nat) (v : PV) | un (is : List Nat) (v : PV) | setIx (i : Nat) (p : PP) (k : PX) (v : PV) | ret (v : PV) | drop (v : PV) | raise (x : Str)
  | ite (t : PTs) (a b : PSs) | for (it : PIx) (tg : Tg) (b : PSs) | wh (μ : List OV → Nat) (t : PTs) (b : PSs) | pass | try (b : PB) (ex : List Str) (i : Nat) (s : PSs)
inductive PSs where
  | nil | cons (a : PS) (r : PSs)
end
def PB.ev (Φ : Ph) : PB → SF
  | .drop v => fDrop (v.ev Φ)
  | .set i v => fSet i (v.ev Φ)
  | .ite t a b => fIfS (t.ev Φ) (a.ev Φ) (b.ev Φ)
mutual
def PS.ev (Φ : Ph) : PS → SF
  | .set i v => fSet i (v.ev Φ)
  | .un is v => fUn is (v.ev Φ)
  | .setIx i p k v => fSetIx i (p.ev Φ) (k.ev Φ) (v.ev Φ)
  | .ret v => fRet (v.ev Φ)
  | .drop v => fDrop (v.ev Φ)
  | .raise x => fun _ => some (.exc x)
  | .ite t a b => fIfS (t.ev Φ) (a.ev Φ) (b.ev Φ)
  | .for it tg b => fFor (it.ev Φ) tg (b.ev Φ)
  | .wh μ t b => fWhile μ (t.ev Φ) (b.ev Φ)
  | .pass => fNil
  | .try b ex i s => fTry (b.ev Φ) ex i (s.ev Φ)
def PSs.ev (Φ : Ph) : PSs → SF
  | .nil => fNil
  | .cons a r => fSeq (a.ev Φ) (r.ev Φ)
end
/-- a comprehension that is stored without a detour -/
def swB (c : Ct) (e : Expr) (y : Str) (py : Pos) : Bool := match e with
  | .ListComp _ _ scope pos => decide (c.sc.names.lookup y = some .local) && (py.line == pos.line) && !(scope.names.any fun (n, k) => n == y && (k == .local || k == .cell))
  | _ => false
def noSD : Expr → Bool
  | .SetComp .. => false | .DictComp .. => false | _ => true
def noTup : Expr → Bool
  | .Tuple .. => false | _ => true
def noLC : Expr → Bool
  | .ListComp .. => false | .SetComp .. => false | .DictComp .. => false | _ => true
def PV.isLc : PV → Bool
  | .ex (.lc ..) => true
  | .ex (.st (.lc ..)) => true
  | _ => false
def PB.ok : PB → Ct → List Stmt → Bool
  | .drop v, c, sts => (match sts with
      | [.Expr e _] => noLC e && v.ok c e
      | _ => false)
  | .set i v, c, sts => (match sts with
      | [.Assign [.Name y py] e _] => c.tn i y && v.ok c e && noSD e && (!swB c e y py || v.isLc)
      | _ => false)
  | .ite t a b, c, sts => (match sts with
      | [.If e x y _] => t.ok c e && a.ok c x && b.ok c y
      | _ => false)
mutual
def PS.ok : PS → Ct → Stmt → Bool
  | .set i v, c, st => (match st with
      | .Assign [.Name y py] e _ => c.tn i y && v.ok c e && noSD e && (!swB c e y py || v.isLc)
      | _ => false)
  | .un is v, c, st => (match st with
      | .Assign [.Tuple tes _ _] e _ => okTgs c is tes && noTup e && v.ok c e && c.calm
      | _ => false)
  | .setIx i p k v, c, st => (match st with
      | .Assign [.Subscript o kk _] e _ => plainE kk && p.ok c i o && k.ok c kk && v.ok c e
      | _ => false)
  | .ret v, c, st => (match st with
      | .Return (some e) _ => v.ok c e
      | _ => false)
  | .drop v, c, st => (match st with
      | .Expr e _ => noLC e && v.ok c e
      | _ => false)
  | .raise x, c, st => (match st with
      | .Raise (some (.Call (.Name y _) [.Constant (.str _) _ _] [] _)) none _ => decide (y = x) && c.gl x && c.ex.contains x && c.calm
      | _ => false)
  | .ite t a b, c, st => (match st with
      | .If e x y _ => t.ok c e && a.ok c x && b.ok c y
      | _ => false)
  | .for it tg b, c, st => (match st with
      | .For tge iter body [] _ => it.ok c tge iter && okTg c tg tge && b.ok c body && c.calm
      | _ => false)
  | .wh _ t b, c, st => (match st with
      | .While e body [] _ => t.ok c e && b.ok c body
      | _ => false)
  | .pass, c, st => (match st with
      | .Pass _ => true
      | _ => false)
  | .try b ex i s, c, st => (match st with
      | .Try body [.ExceptHandler (some (.Name x _)) (some n) (b₀ :: suite) _] [] [] _ => decide (x = "ChanceError") && c.gl x && decide (ex = c.ex) && !c.ex.isEmpty && decide (c.N[i]? = some n) && decide (c.sc.names.lookup n = some .local) && b.ok c body && s.ok { c with calm := false } (b₀ :: suite)
      | _ => false)
def PSs.ok : PSs → Ct → List Stmt → Bool
  | .nil, c, sts => (match sts with
      | [] => true
      | _ => false)
  | .cons a r, c, sts => (match sts with
      | st :: sts => a.ok c st && r.ok c sts
      | _ => false)
end
structure StOk (X : Cx) (W : WX) (c : Ct) (Φ : Ph) (k : Nat) : Prop extends CtOk X W c Φ k where
  own : PassesOwn (model X.prog X.w) X.A X.env X.xe
  stk : X.stack = X.env :: X.outer
  frm : X.env.frame = some X.env.locals
section
variable {X : Cx} {W : WX} {c : Ct} {Φ : Ph} {k : Nat}
theorem nCall_ok {o : Expr} (h : nCall o = true) : NoCall o := by
  cases o <;> first | trivial | (simp [nCall] at h)
theorem PV.sound : ∀ (v : PV) {X : Cx} {W : WX} {c : Ct} {Φ : Ph} {k : Nat} {e : Expr}, CtOk X W c Φ k → v.ok c e = true → SV X W e (v.ev Φ)
  | .ex p, X, W, c, Φ, k, e, o, h => SV.of (PX.sound p o (by simpa only [PV.ok] using h))
  | .callT f xs, X, W, c, Φ, k, e, o, h => by
    simp only [PV.ok] at h
    split at h
    · simp only [Bool.and_eq_true, decide_eq_true_eq] at h
      have h1 := h.1.1.1.1.1
      subst h1
      exact SV.call (o.fnAt h.1.1.1.2 h.1.1.1.1.2 h.2) o.tk h.1.1.2 (PXs.sound xs o h.1.2) fun env ys e1 q => evs_length h.1.2 q
    · cases h
  | .pop0 i p, X, W, c, Φ, k, e, o, h => by
    simp only [PV.ok] at h
    split at h
    · simp only [Bool.and_eq_true, decide_eq_true_eq] at h
      have h1 := h.1.1.1
      subst h1
      exact SV.pop0 (nCall_ok h.1.2) h.1.1.2 (PP.sound p o h.2)
    · cases h
  | .popAt i p kk, X, W, c, Φ, k, e, o, h => by
    simp only [PV.ok] at h
    split at h
    · simp only [Bool.and_eq_true, decide_eq_true_eq] at h
      have h1 := h.1.1.1.1.1
      subst h1
      exact SV.popAt (nCall_ok h.1.1.1.2) h.1.1.2 h.1.1.1.1.2 (PP.sound p o h.1.2) (PX.sound kk o h.2)
    · cases h
  | .app i p a, X, W, c, Φ, k, e, o, h => by
    simp only [PV.ok] at h
    split at h
    · simp only [Bool.and_eq_true, decide_eq_true_eq] at h
      have h1 := h.1.1.1.1.1
      subst h1
      exact SV.mt app_ok PySem.F.slot_list_append PySem.F.type_list_append mt_append (nCall_ok h.1.1.1.2) (by simp [h.1.1.2]) (by simp) h.1.1.1.1.2 (PP.sound p o h.1.2) (SA.cons (PX.sound a o h.2) SA.nil (starEach_plain h.1.1.2))
    · cases h
  | .appV i v, X, W, c, Φ, k, e, o, h => by
    simp only [PV.ok] at h
    split at h
    · simp only [Bool.and_eq_true, decide_eq_true_eq] at h
      have h1 := h.1.1.1.1.1
      subst h1
      exact SV.appV (nCall_ok h.1.1.1.2) h.1.1.2 h.1.1.1.1.2 (PP.sound .nil o h.1.2) (PV.sound v o h.2)
    · cases h
  | .ins i p kk a, X, W, c, Φ, k, e, o, h => by
    simp only [PV.ok] at h
    split at h
    · simp only [Bool.and_eq_true, decide_eq_true_eq] at h
      have h1 := h.1.1.1.1.1.1.1
      subst h1
      exact SV.mt ins_ok PySem.F.slot_list_insert PySem.F.type_list_insert mt_insert (nCall_ok h.1.1.1.1.1.2) (by simp [h.1.1.1.1.2, h.1.1.1.2]) (by simp) h.1.1.1.1.1.1.2 (PP.sound p o h.1.1.2)
        (SA.cons (PX.sound kk o h.1.2) (SA.cons (PX.sound a o h.2) SA.nil (starEach_plain h.1.1.1.2)) (starEach_plain h.1.1.1.1.2))
    · cases h
  | .clear i p, X, W, c, Φ, k, e, o, h => by
    simp only [PV.ok] at h
    split at h
    · simp only [Bool.and_eq_true, decide_eq_true_eq] at h
      have h1 := h.1.1.1
      subst h1
      exact SV.mt0 clear_ok PySem.F.slot_list_clear PySem.F.type_list_clear mt_clear (nCall_ok h.1.2) h.1.1.2 (PP.sound p o h.2)
    · cases h
theorem PTs.sound : ∀ (t : PTs) {X : Cx} {W : WX} {c : Ct} {Φ : Ph} {k : Nat} {e : Expr}, CtOk X W c Φ k → t.ok c e = true → SVt X W e (t.ev Φ)
  | .ex p, X, W, c, Φ, k, e, o, h => SVt.of (PX.soundT p o (by simpa only [PTs.ok] using h))
  | .va v, X, W, c, Φ, k, e, o, h => by
    simp only [PTs.ok, Bool.and_eq_true] at h
    exact SVt.val (PL.isTrue_plain h.2) (PV.sound v o h.1)
  | .not t, X, W, c, Φ, k, e, o, h => by
    simp only [PTs.ok] at h
    split at h
    · exact SVt.not (PTs.sound t o h)
    · cases h
theorem okTgs_us (o : CtOk X W c Φ k) : ∀ {is : List Nat} {es : List Expr}, okTgs c is es = true → SUs X es is
  | [], [], h => SUs.nil
  | [], e :: es, h => by simp [okTgs] at h
  | i :: is, [], h => by simp [okTgs] at h
  | i :: is, e :: es, h => by
    cases e <;> simp only [okTgs, Bool.false_eq_true, Bool.and_eq_true] at h
    obtain ⟨h1, h2⟩ := h
    obtain ⟨t1, t2, t3, t4⟩ := o.tn h1
    exact SUs.cons t1 t2 t3 t4 (okTgs_us o h2)
theorem swB_ok (o : CtOk X W c Φ k) {e : Expr} {y : Str} {py : Pos} {l : Nat} (h : noSD e = true) : swapsWith e (some (.Name y py)) l X.env = pure (swB c e y py) := by
  have hb : X.env.blockKind = .function := by
    unfold Env.blockKind
    rw [o.sc, o.kind]
    rfl
  cases e <;> first | rfl | (simp [noSD] at h; done) | skip
  unfold swapsWith swB
  simp only [hb]
  show pure _ = pure _
  congr 1
  have : (X.env.kindOf y == some NameKind.local) = decide (c.sc.names.lookup y = some .local) := by
    show (X.env.scope.names.lookup y == some .local) = _
    rw [o.sc]
    rw [Bool.eq_iff_iff]
    simp
  rw [this]
  simp [Expr.pos]
def NoName (o : Expr) : Prop := match o with
  | .Name .. => False
  | _ => True
theorem sole_ok {tg e : Expr} {l : Nat} {env : Env} (h : NoName tg) : swapsWithSole [tg] e l env = pure false := by
  cases tg <;> first | exact h.elim | (cases e <;> rfl)
theorem swapped_none {ts : List Expr} {k : Nat} {pos : Pos} {e : Expr} {env : Env} (h : noTup e = true) : swappedStores [.Tuple ts k pos] e env = pure none := by
  cases e <;> first | rfl | (simp [noTup] at h)
theorem drop_ok {e : Expr} {l : Nat} {env : Env} (h : noLC e = true) : swapsWith e none l env = pure false := by
  cases e <;> first | rfl | (simp [noLC] at h)
theorem Ex1.to (o : CtOk X W c Φ k) {x : Str} (h : c.ex.contains x = true) (g : c.gl x = true) : Ex X x := by
  obtain ⟨db, C, bmB, B, newId, initId, h1, h2, h3, h4, h5, h6⟩ := o.ex x h
  exact ⟨o.gl g, db, C, bmB, B, newId, initId, h1, h2, h3, h4, raises_own h5 h6⟩
theorem SEA.st {y : Str} {py spos : Pos} {i : Nat} {e : Expr} {f : EF} (s : SEA X W y py spos i e f) : SEA X W y py spos i e (fSt f) := by
  obtain ⟨t, p, q⟩ := s
  refine ⟨t, p, fun R H P σ env a Q hp => q R H P σ env a Q ?_⟩
  unfold fSt at hp
  cases ef : f env with
  | none => rw [ef] at hp; exact hp
  | some s =>
    cases s with
    | exc c => rw [ef] at hp; exact hp
    | ok x e1 =>
      rw [ef, bnd_ok] at hp
      cases es : x.stl with
      | none => rw [es] at hp; exact hp.elim
      | some y =>
        rw [es] at hp
        intro v H1 P1 B1 g1 r1
        obtain ⟨g2, r2⟩ := g1.stl a r1 es
        exact hp v H1 P1 Fp.emp g2 r2
theorem okTgs_len (o : CtOk X W c Φ k) {is : List Nat} {es : List Expr} (h : okTgs c is es = true) : (assignEach es X.env).length = es.length ∧ (assignEach es X.env).findIdx? (·.1) = none :=
  let q := okTgs_sound o h; ⟨q.2.2.1, q.2.2.2⟩
theorem set_sound (o : CtOk X W c Φ k) {i : Nat} {v : PV} {y : Str} {py spos : Pos} {e : Expr} (h1 : c.tn i y = true) (h2 : v.ok c e = true) (h3 : noSD e = true) (h4 : (!swB c e y py || v.isLc) = true) : SVA X W y py spos i e (v.ev Φ) := by
  obtain ⟨t1, t2, t3, t4⟩ := o.tn h1
  have sw := swB_ok (py := py) (y := y) (l := spos.line) o h3
  cases hb : swB c e y py with
  | false =>
    rw [hb] at sw
    exact SVA.v t1 t2 t3 t4 sw (PV.sound v o h2)
  | true =>
    rw [hb] at sw h4
    simp only [Bool.not_true, Bool.false_or] at h4
    have main : ∀ (elt : PX) (tg : Tg) (it : PIx) (d : PXo) (ws : List Nat), (PX.lc elt tg it d ws).ok c e = true → SEA X W y py spos i e ((PX.lc elt tg it d ws).ev Φ) := by
      intro elt tg it d ws g2
      cases e <;> try (simp only [PX.ok, Bool.false_eq_true] at g2)
      rename_i el gens scope pos
      match gens, g2, hb, sw with
      | [⟨tge, iter, ifs, 0⟩], g2, hb, sw =>
        have hq := lcSound elt tg it d ws o g2
        have hy : X.env.scope.names.lookup y = some .local := by
          unfold swB at hb
          simp only [Bool.and_eq_true, decide_eq_true_eq] at hb
          rw [o.sc]
          exact hb.1.1
        have hcalm : c.calm = true := by
          unfold PX.ok at g2
          simp only [Bool.and_eq_true] at g2
          exact g2.2
        have q := SEA.lc (pos := pos) (spos := spos) (py := py) (o.calm hcalm) t1 t2 hy sw hq
        rw [wOwn_map] at q
        exact q
    cases v <;> try (simp [PV.isLc] at h4; done)
    rename_i p
    simp only [PV.ok] at h2
    cases p <;> try (simp [PV.isLc] at h4; done)
    · exact SVA.e (main _ _ _ _ _ h2)
    · rename_i p
      cases p <;> try (simp [PV.isLc] at h4; done)
      simp only [PX.ok, Bool.and_eq_true] at h2
      exact SVA.e (SEA.st (main _ _ _ _ _ (by simpa only [PX.ok] using h2.1)))
theorem CtOk.tr (o : CtOk X W c Φ k) {W' : WX} {pn : List (Addr × Obj)} {xe : Value → Shared → Prop} (tk : Takes (X.tr pn xe) W') : CtOk (X.tr pn xe) W' c Φ k :=
  ⟨o.N, o.nd, o.sc, o.kind, o.calm, o.room, o.un, o.fnl, o.bn, fun x n h => o.fn x n h, tk, o.ex, o.exf⟩
theorem CtOk.suite (o : CtOk X W c Φ k) (a : Addr) (pn : List (Addr × Obj)) : CtOk (X.suite a pn) wF { c with calm := false } Φ k :=
  ⟨o.N, o.nd, o.sc, o.kind, fun z => (by cases z), fun z => (by cases z), o.un, o.fnl, o.bn, fun x n h => o.fn x n h, fun u s' ⟨_, _, _, _, _, _, _, _, _, _, _, _, _, _, _, _, z⟩ => z.elim, o.ex, o.exf⟩
theorem PB.sound : ∀ (b : PB) {X : Cx} {W : WX} {c : Ct} {Φ : Ph} {k : Nat} {sts : List Stmt}, CtOk X W c Φ k → b.ok c sts = true → SSx X W sts (b.ev Φ)
  | .drop v, X, W, c, Φ, k, sts, o, h => by
    simp only [PB.ok] at h
    split at h
    · simp only [Bool.and_eq_true] at h
      exact SSx.drop (drop_ok h.1) (PV.sound v o h.2)
    · cases h
  | .set i v, X, W, c, Φ, k, sts, o, h => by
    simp only [PB.ok] at h
    split at h
    · simp only [Bool.and_eq_true] at h
      exact SSx.set (set_sound o h.1.1.1 h.1.1.2 h.1.2 h.2)
    · cases h
  | .ite t a b, X, W, c, Φ, k, sts, o, h => by
    simp only [PB.ok] at h
    split at h
    · simp only [Bool.and_eq_true] at h
      exact SSx.if (PX.soundT t o h.1.1) (PB.sound a o h.1.2) (PB.sound b o h.2)
    · cases h
mutual
theorem PS.sound : ∀ (p : PS) {X : Cx} {W : WX} {c : Ct} {st : Stmt}, StOk X W c Φ k → p.ok c st = true → SS X W st (p.ev Φ)
  | .set i v, X, W, c, st, o, h => by
    simp only [PS.ok] at h
    split at h
    · simp only [Bool.and_eq_true] at h
      exact SS.set (set_sound o.toCtOk h.1.1.1 h.1.1.2 h.1.2 h.2)
    · cases h
  | .un is v, X, W, c, st, o, h => by
    simp only [PS.ok] at h
    split at h
    · simp only [Bool.and_eq_true] at h
      obtain ⟨l1, l2⟩ := okTgs_len o.toCtOk h.1.1.1
      exact SS.un (o.calm h.2) l1 l2 (sole_ok trivial) (swapped_none h.1.1.2) (okTgs_us o.toCtOk h.1.1.1) (PV.sound v o.toCtOk h.1.2)
    · cases h
  | .setIx i p kk v, X, W, c, st, o, h => by
    simp only [PS.ok] at h
    split at h
    · simp only [Bool.and_eq_true] at h
      exact SS.setIx h.1.1.1 (sole_ok trivial) (PP.sound p o.toCtOk h.1.1.2) (PX.sound kk o.toCtOk h.1.2) (PV.sound v o.toCtOk h.2)
    · cases h
  | .ret v, X, W, c, st, o, h => by
    simp only [PS.ok] at h
    split at h
    · exact SS.ret (PV.sound v o.toCtOk h)
    · cases h
  | .drop v, X, W, c, st, o, h => by
    simp only [PS.ok] at h
    split at h
    · simp only [Bool.and_eq_true] at h
      exact SS.drop (drop_ok h.1) (PV.sound v o.toCtOk h.2)
    · cases h
  | .raise x, X, W, c, st, o, h => by
    simp only [PS.ok] at h
    split at h
    · simp only [Bool.and_eq_true, decide_eq_true_eq] at h
      have h1 := h.1.1.1
      subst h1
      exact SS.raise (o.calm h.2) o.tk (Ex1.to o.toCtOk h.1.2 h.1.1.2)
    · cases h
  | .ite t a b, X, W, c, st, o, h => by
    simp only [PS.ok] at h
    split at h
    · simp only [Bool.and_eq_true] at h
      exact SS.if (PTs.sound t o.toCtOk h.1.1) (PSs.sound a o h.1.2) (PSs.sound b o h.2)
    · cases h
  | .for it tg b, X, W, c, st, o, h => by
    simp only [PS.ok] at h
    split at h
    · simp only [Bool.and_eq_true] at h
      exact SS.for o.own (o.calm h.2) (PIx.sound it o.toCtOk h.1.1.1) (okTg_sound o.toCtOk h.1.1.2) (PSs.sound b o h.1.2) (PIx.setOk it h.1.1.1)
    · cases h
  | .wh μ t b, X, W, c, st, o, h => by
    simp only [PS.ok] at h
    split at h
    · simp only [Bool.and_eq_true] at h
      exact SS.while μ o.own (PTs.sound t o.toCtOk h.1) (PSs.sound b o h.2)
    · cases h
  | .pass, X, W, c, st, o, h => by
    simp only [PS.ok] at h
    split at h
    · exact SS.pass
    · cases h
  | .try b ex i s, X, W, c, st, o, h => by
    simp only [PS.ok] at h
    split at h
    · simp only [Bool.and_eq_true, decide_eq_true_eq, Bool.not_eq_true'] at h
      obtain ⟨⟨⟨⟨⟨⟨⟨h1, h2⟩, h3⟩, h4⟩, h5⟩, h6⟩, h7⟩, h8⟩ := h
      subst h1 h3
      refine SS.try (o.exf h4) o.stk o.frm (by rw [o.N]; exact o.nd) (by rw [o.N]; exact h5) ?_ (o.gl h2) o.tk (fun W' pn xe t ow => PB.sound b (o.toCtOk.tr t) h7) fun a pn => PSs.sound s ⟨o.toCtOk.suite a pn, PassesOwn.never, o.stk, o.frm⟩ h8
      show X.env.scope.names.lookup _ = _
      rw [o.sc]
      exact h6
    · cases h
theorem PSs.sound : ∀ (p : PSs) {X : Cx} {W : WX} {c : Ct} {sts : List Stmt}, StOk X W c Φ k → p.ok c sts = true → SSs X W sts (p.ev Φ)
  | .nil, X, W, c, sts, o, h => by
    simp only [PSs.ok] at h
    split at h
    · exact SSs.nil
    · cases h
  | .cons a r, X, W, c, sts, o, h => by
    simp only [PSs.ok] at h
    split at h
    · simp only [Bool.and_eq_true] at h
      exact SSs.cons (PS.sound a o h.1) (PSs.sound r o h.2)
    · cases h
end
end

/-! ### functions -/
def runF (Φ : Ph) (n : Nat) (b : PSs) : FF := fun xs => match b.ev Φ (xs ++ List.replicate (n - xs.length) .hole) with
  | some (.nx _) => some (.ret (.fr .non))
  | some (.ret y) => some (.ret y)
  | some (.exc c) => some (.exc c)
  | none => none
section
variable {P : Program} {w : World} {K : PySem.W.Frag} {mg : Str → Option Value} {base : Heap}
theorem nvs_hole : ∀ n : Nat, OV.nvs (List.replicate n .hole) = true
  | 0 => rfl
  | n + 1 => by rw [List.replicate_succ]; simp [OV.nvs, OV.nv, nvs_hole n]
/-- the names at a def's entry -/
theorem er_start {H F : Hp} {xs : List OV} {vs : List V} {A : Fp} {N : List Str} (nx : OV.nvs xs = true) (r : ROs K H F xs vs A) (hl : xs.length ≤ N.length) :
    ∃ Pk, ER K H F (xs ++ List.replicate (N.length - xs.length) .hole) (L2.start N vs) Pk ∧ ∀ q, A q ↔ Fam.un Pk q := by
  obtain ⟨Pk, k1, k2⟩ := RI.of r
  have hv := k1.len
  refine ⟨Pk, ⟨⟨k1.fam.apart, fun i q a => by have := k1.fam.lt i q a; simp; omega⟩, by unfold L2.start; simp [hv], fun i x e => ?_⟩, k2⟩
  unfold L2.start
  by_cases hi : i < xs.length
  · rw [List.getElem?_append_left hi] at e
    obtain ⟨v, e1, e2⟩ := k1.at_ i x e
    refine ⟨nvs_iff.mp nx x (List.mem_of_getElem? e), some v, ?_, OR.of_ro e2⟩
    rw [List.getElem?_append_left (by simp; omega), List.getElem?_map, e1]
    rfl
  · rw [List.getElem?_append_right (by omega), List.getElem?_replicate] at e
    split at e
    · rename_i h
      simp only [Option.some.injEq] at e
      subst e
      refine ⟨rfl, none, ?_, .inl ⟨rfl, fun q a => hi (k1.fam.lt i q a)⟩⟩
      rw [List.getElem?_append_right (by simp; omega), List.getElem?_replicate, if_pos (by simp; omega)]
    · cases e
/-- a body keeps the promise -/
theorem body_ok {X : Cx} {W : WX} {Φ : Ph} {N : List Str} {b : PSs} {body : List Stmt} {n : Nat} (hK : X.K = K) (hm : X.mg = mg) (s : SSs X W body (b.ev Φ)) (hn : n ≤ N.length) {H : Hp} {vs : List V} {Q : VK} {E : XK} (hW : ∀ C σ H, E (.ref C) none H → W (.ref C) none σ H)
    (h : spOf K mg n (runF Φ N.length b) vs H Q E) : ∃ t : TS, L2.PSs X body t ∧ t { nx := fun _ H' => Q .non H', rt := Q } (L2.start N vs) H := by
  subst hK hm
  obtain ⟨t, p, q⟩ := s
  obtain ⟨hl, xs, A, R, nx, dj, bR, r, post⟩ := h
  have hx := r.length
  obtain ⟨Pk, er, iff⟩ := er_start (N := N) nx r (by omega)
  have oe : ∀ q, own Pk R q ↔ A q ∨ R q := fun q => by
    show Fam.un Pk q ∨ R q ↔ _
    rw [iff q]
  refine ⟨t, p, q (msk H A) R H Pk (L2.start N vs) _ ⟨er.mono (Same.refl _) (msk_sub fun q z => (oe q).mp z), bR, fun q z => dj q ((iff q).mpr z)⟩ (msk_sub fun q z => (iff q).mpr z) _ ?_⟩
  unfold runF at post
  cases e : b.ev Φ (xs ++ List.replicate (N.length - xs.length) .hole) with
  | none => rw [e] at post; exact post.elim
  | some r =>
    rw [e] at post
    cases r with
    | nx e1 =>
      intro σ' H' P' a s'
      exact post .non H' Fp.emp rfl (s'.trans (msk_sub fun q z => z.elim)) (by simp [RO, RD, Fp.emp])
    | ret y => exact fun v H' B ny s' r => post v H' B ny s' r
    | exc cc => exact fun σ' H' C s' hC => hW C σ' H' (post H' C s' hC)
end
end PL

/-! PL17: a law's functions all at once -/
namespace PL
open PySem PySem.Spec PyProof.Rows L2

/-- a function as a tree: its names, how many of them are parameters -/
structure PD where
  N : List Str
  np : Nat
  body : PSs
abbrev Prg := List (Str × PD)
def Phi (G : Prg) : Nat → Ph
  | 0, _ => fun _ => none
  | k + 1, x => match G.lookup x with
    | some d => runF (Phi G k) d.N.length d.body
    | none => fun _ => none
/-- a def of the text and its tree -/
structure DS where
  x : Str
  d : PD
  params : Arguments
  body : List Stmt
  scope : Scope
def DS.def (t : DS) : He.DefD := ⟨(t.x, none), t.x, t.x, t.params, t.body, t.scope, [], []⟩
def DS.ps (t : DS) : List Str := t.d.N.take t.d.np
def prg (ds : List DS) : Prg := ds.map fun t => (t.x, t.d)
def arOf (G : Prg) : List (Str × Nat) := G.map fun p => (p.1, p.2.np)
def ctOf (G : Prg) (bn ex : List Str) (N : List Str) (sc : Scope) : Ct := { N := N, sc := sc, cl := none, ar := arOf G, bn := bn, ex := ex, calm := true }
def kLoc : NameKind → Bool
  | .local => true | .cell => true | _ => false
def scB (N ps : List Str) (sc : Scope) : Bool := (match sc.kind with | .function => true | _ => false) && !sc.isCoroutine && !sc.isGenerator && decide N.Nodup && decide (N.take ps.length = ps) &&
  (ps.all fun x => (sc.names.lookup x == some .local) || (sc.names.lookup x == some .cell)) && (sc.names.all fun y => !(y.2 == .free))
theorem scB_ok {N ps : List Str} {sc : Scope} (h : scB N ps sc = true) : FnScope N ps sc := by
  simp only [scB, Bool.and_eq_true, Bool.not_eq_true', decide_eq_true_eq, List.all_eq_true, Bool.or_eq_true, beq_iff_eq] at h
  obtain ⟨⟨⟨⟨⟨⟨h1, h2⟩, h3⟩, h4⟩, h5⟩, h6⟩, h7⟩ := h
  refine ⟨?_, h2, h3, h4, h5, h6, fun y hy e => ?_⟩
  · cases hk : sc.kind <;> simp only [hk] at h1 <;> first | rfl | cases h1
  · have := h7 y hy
    rw [e] at this
    cases this
/-- the tree is the text's -/
def DS.okB (G : Prg) (bn ex : List Str) (t : DS) : Bool := scB t.d.N t.ps t.scope && decide (t.d.np ≤ t.d.N.length) && !(t.x == ("__debug__" : Str)) && t.d.body.ok (ctOf G bn ex t.d.N t.scope) t.body
def BindsB (t : DS) : Prop := ∀ (kV doc pm : Value) (an : Option Addr) (cdv ct : Value) (us : List Value), us.length = t.ps.length → bindArgs (PySem.W.fnOf t.x t.x t.params t.body t.scope .none kV doc pm an cdv ct) ⟨us, []⟩ = pure (t.ps.zip us)
/-- a law: its defs, the names of the built-ins and exception classes it leans on -/
structure LawD where
  ds : List DS
  bn : List Str
  ex : List Str
def LawD.G (l : LawD) : Prg := prg l.ds
structure LawD.Ok (l : LawD) : Prop where
  ok : ∀ t ∈ l.ds, t.okB l.G l.bn l.ex = true
  bi : ∀ t ∈ l.ds, BindsB t
def LawD.fa (l : LawD) : List He.Fa := l.ds.map (fun t => .glo t.x) ++ l.ex.map .glo ++ l.bn.map .free ++ l.ex.map .exc
def eqB (a : Option Bool) (b : Bool) : Bool := decide (a = some b)
def excCB (K : PySem.W.Frag) (D : Addr) : Bool := He.eqO (PySem.W.findIn K (.ref D) "__getattribute__") (some (some (.builtin "BaseException.__getattribute__"))) && He.eqO (PySem.W.findIn K (.ref D) "__getattr__") (some none) &&
  eqB (PySem.W.subIn K (.ref D) (.type "BaseException")) true && PySem.W.hasDictIn K D && He.eqO (PySem.W.findIn K (.ref D) "__class__") (some (some (.builtin "object.__class__"))) &&
  He.eqO (PySem.W.specialIn K (.builtin "object.__class__") "__get__") (some (some (.builtin "getset_descriptor.__get__"))) && eqB (PySem.W.takesIn K (.builtin "object.__class__")) true && eqB (PySem.W.mroIn K D (.type "object")) true
theorem excCB_ok {K : PySem.W.Frag} {D : Addr} (h : excCB K D = true) : ExcC K D := by
  simp only [excCB, Bool.and_eq_true, eqB, decide_eq_true_eq] at h
  obtain ⟨⟨⟨⟨⟨⟨⟨h1, h2⟩, h3⟩, h4⟩, h5⟩, h6⟩, h7⟩, h8⟩ := h
  exact ⟨He.eqO_ok h1, He.eqO_ok h2, h3, h4, He.eqO_ok h5, He.eqO_ok h6, h7, h8⟩
/-- what more the head tells: the exception classes -/
def exB (ex : List Str) (K : PySem.W.Frag) : Bool := ex.isEmpty || (He.eqO (PySem.W.nsIn K mainGlobals "ChanceError") (some (some (.ref (He.ga K "ChanceError")))) && !ex.contains "ValueError" && ex.all fun x => !(x == ("__debug__" : Str)) && excCB K (He.ga K x) &&
  eqB (PySem.W.kitOne K (.ref (He.ga K x)) (.type "ValueError")) true && eqB (PySem.W.exmOne K (.ref (He.ga K x)) (.ref (He.ga K "ChanceError"))) true && ex.all fun y => eqB (PySem.W.kitOne K (.ref (He.ga K x)) (.ref (He.ga K y))) (decide (x = y)))
theorem exB_ok {ex : List Str} {K : PySem.W.Frag} {mg : Str → Option Value} {h : Heap} (X : K.In h) (G : h.Ns mainGlobals mg) (hm : ∀ x, ex.contains x = true → mg x = some (.ref (He.ga K x))) (b : exB ex K = true) (ne : ex.isEmpty = false) : ExF K mg ex := by
  simp only [exB, ne, Bool.false_or, Bool.and_eq_true, Bool.not_eq_true', List.all_eq_true, eqB, decide_eq_true_eq] at b
  obtain ⟨⟨h1, h2⟩, h3⟩ := b
  have m : ∀ {x : Str}, ex.contains x = true → x ∈ ex := fun {x} h => by simpa using h
  exact ⟨hm, fun x hx => excCB_ok (h3 x (m hx)).1.1.1.2, fun x y hx hy => (h3 x (m hx)).2 y (m hy), fun x hx => (h3 x (m hx)).1.1.2, fun x hx => (h3 x (m hx)).1.2, PySem.W.mg_of X G (He.eqO_ok h1), fun x hx => (h3 x (m hx)).1.1.1.1, h2⟩
def LawD.fn (l : LawD) : List He.DefD := l.ds.map DS.def
theorem SaysD_mem {fa : List He.Fa} {fn : List He.DefD} {K : PySem.W.Frag} (c : He.SaysD fa fn K) {f : He.Fa} (h : f ∈ fa) : f.ok K = true := by
  obtain ⟨i, hi⟩ := List.mem_iff_getElem?.mp h
  exact c.fact i hi
theorem SaysD_def {fa : List He.Fa} {fn : List He.DefD} {K : PySem.W.Frag} (c : He.SaysD fa fn K) {d : He.DefD} (h : d ∈ fn) : ∃ fd, FunD K d.name d.qual d.params d.body d.scope (d.dvs K) (d.kws K) (He.fAd K d.at_) fd := by
  obtain ⟨i, hi⟩ := List.mem_iff_getElem?.mp h
  exact c.def_ i hi
theorem lookup_map {α β : Type} {f : α → β} {x : Str} : ∀ {l : List (Str × α)} {b : β}, (l.map fun p => (p.1, f p.2)).lookup x = some b → ∃ a, l.lookup x = some a ∧ f a = b
  | [], b, h => by simp at h
  | (y, a) :: l, b, h => by
    simp only [List.map_cons, List.lookup_cons] at h ⊢
    cases e : x == y with
    | true => rw [e] at h; simp only [Option.some.injEq] at h; exact ⟨a, rfl, h⟩
    | false => rw [e] at h; exact lookup_map h
theorem lookup_ds {x : Str} {d : PD} : ∀ {l : List DS}, (prg l).lookup x = some d → ∃ t ∈ l, t.x = x ∧ t.d = d
  | [], h => by simp [prg] at h
  | t :: l, h => by
    simp only [prg, List.map_cons, List.lookup_cons] at h
    cases e : x == t.x with
    | true => rw [e] at h; simp only [Option.some.injEq] at h; exact ⟨t, List.mem_cons_self, (beq_iff_eq.mp e).symm, h⟩
    | false =>
      rw [e] at h
      obtain ⟨t', h1, h2⟩ := lookup_ds (l := l) h
      exact ⟨t', List.mem_cons_of_mem _ h1, h2⟩
section
variable {P : Program} {w : World} {K : PySem.W.Frag} {mg : Str → Option Value} {base h : Heap} {l : LawD}
/-- what a law's head tells -/
structure LF (K : PySem.W.Frag) (mg : Str → Option Value) (l : LawD) : Prop where
  fn : ∀ t ∈ l.ds, mg t.x = some (.ref (He.ga K t.x)) ∧ ∃ fd, FunD K t.x t.x t.params t.body t.scope [] [] (He.ga K t.x) fd
  bn : ∀ x, l.bn.contains x = true → mg x = none
  ex : ∀ x, l.ex.contains x = true → PySem.W.excIn K (He.ga K x) He.veBase "ValueError.__new__" = true ∧ mg x = some (.ref (He.ga K x)) ∧ PySem.W.keepIn K (.ref (He.ga K x)) = true ∧ PySem.W.subIn K (.ref (He.ga K x)) (.type "BaseException") = some true ∧ PySem.W.typeIn K (.ref (He.ga K x)) = some (.type "type")
  exf : l.ex.isEmpty = false → ExF K mg l.ex
theorem LF.of {w : World} (X : K.In h) (G : h.Ns mainGlobals mg) (cx : He.SaysX l.fa l.fn [] [] (exB l.ex) w h K) : LF K mg l :=
  have c : He.SaysD l.fa l.fn K := cx.t.d
{
  fn := fun t ht => by
    refine ⟨He.glo_ok X G (SaysD_mem c ?_), ?_⟩
    · unfold LawD.fa
      simp only [List.mem_append, List.mem_map]
      exact .inl (.inl (.inl ⟨t, ht, rfl⟩))
    · exact SaysD_def c (d := t.def) (List.mem_map_of_mem ht)
  bn := fun x hx => He.free_ok X G (SaysD_mem c (by
    unfold LawD.fa
    simp only [List.mem_append, List.mem_map]
    exact .inl (.inr ⟨x, by simpa using hx, rfl⟩)))
  ex := fun x hx => by
    have m1 : He.Fa.glo x ∈ l.fa := by
      unfold LawD.fa
      simp only [List.mem_append, List.mem_map]
      exact .inl (.inl (.inr ⟨x, by simpa using hx, rfl⟩))
    have m2 : He.Fa.exc x ∈ l.fa := by
      unfold LawD.fa
      simp only [List.mem_append, List.mem_map]
      exact .inr ⟨x, by simpa using hx, rfl⟩
    obtain ⟨q1, q2, q3, q4⟩ := He.exc_ok (SaysD_mem c m2)
    exact ⟨q1, He.glo_ok X G (SaysD_mem c m1), q2, q3, q4⟩
  exf := fun ne => exB_ok X G (fun x hx => He.glo_ok X G (SaysD_mem c (by
    unfold LawD.fa
    simp only [List.mem_append, List.mem_map]
    exact .inl (.inl (.inr ⟨x, by simpa using hx, rfl⟩))))) cx.more ne }
theorem LF.ex1 (f : LF K mg l) (hd : (l.ex.all fun x => !(x == ("__debug__" : Str))) = true) {x : Str} (hx : l.ex.contains x = true) : Ex1 K mg x := by
  obtain ⟨h1, h2, h3, h4, h5⟩ := f.ex x hx
  refine ⟨?_, He.ga K x, He.veBase, "ValueError", "ValueError.__new__", "ValueError.__init__", PySem.F.excBase_ValueError, h1, h2, h3, h4, h5⟩
  have := List.all_eq_true.mp hd x (by simpa using hx)
  simpa using this
/-- the measure of the loop that takes rests: the second number -/
def muAt (i : Nat) (e : List OV) : Nat := match e.getD i .hole with
  | .fr (.int j) => j.natAbs + 1
  | _ => 0
theorem spLen {n : Nat} {φ : FF} : ∀ vs H Q E, spOf K mg n φ vs H Q E → vs.length = n := fun vs H Q E q => q.1
/-- the situation of a def's body -/
theorem st_of {CX : CXT} {N : List Str} {x : Str} {scope : Scope} {f : Addr} {cdv : Value} {A : Around} {outer : List Env} {s : Shared} {H : Hp} {E : XK} {W : WX} {Φ : Ph} {k : Nat} {ps : List Str} (S : FnScope N ps scope) (lf : LF K mg l) (hd : (l.ex.all fun x => !(x == ("__debug__" : Str))) = true)
    (hr : Room k (A.deeper (envOfC x scope s.heap.objs.size f cdv))) (fn : ∀ x n, (arOf l.G).lookup x = some n → Fn1 P w K mg base k x n (Φ x))
    (tk : Takes (cxOf CX P w K mg base N x scope f cdv A outer s H E) W) : StOk (cxOf CX P w K mg base N x scope f cdv A outer s H E) W (ctOf l.G l.bn l.ex N scope) Φ k where
  N := rfl
  nd := S.nd
  sc := rfl
  kind := S.kind
  calm := fun _ => rfl
  room := fun _ => hr
  un := by have := hr.un; show (A.deeper _).units + 65 < cLine; omega
  exf := fun ne => lf.exf ne
  stk := rfl
  frm := rfl
  fnl := fun x _ _ => rfl
  bn := fun x hx => lf.bn x hx
  fn := fun x n hx => fn x n hx
  tk := tk
  ex := fun x hx => lf.ex1 hd hx
  own := passes_of (K := fun e s'' => CX outer H s E e s'') rfl
theorem DS.parts {G : Prg} {bn ex : List Str} {t : DS} (h : t.okB G bn ex = true) : FnScope t.d.N t.ps t.scope ∧ t.ps.length = t.d.np ∧ t.d.np ≤ t.d.N.length ∧ (t.x == ("__debug__" : Str)) = false ∧ t.d.body.ok (ctOf G bn ex t.d.N t.scope) t.body = true := by
  simp only [DS.okB, Bool.and_eq_true, decide_eq_true_eq, Bool.not_eq_true'] at h
  refine ⟨scB_ok h.1.1.1, ?_, h.1.1.2, h.1.2, h.2⟩
  unfold DS.ps
  rw [List.length_take]
  have := h.1.1.2
  omega
theorem phi_ok (ok : l.Ok) (lf : LF K mg l) (hd : (l.ex.all fun x => !(x == ("__debug__" : Str))) = true) : ∀ k x n, (arOf l.G).lookup x = some n → Fn1 P w K mg base k x n (Phi l.G k x) := by
  intro k
  induction k with
  | zero =>
    intro x n hx
    obtain ⟨d, h1, h2⟩ := lookup_map (f := fun d : PD => d.np) hx
    obtain ⟨t, ht, e1, e2⟩ := lookup_ds h1
    subst e1 e2 h2
    obtain ⟨S, p1, p2, p3, p4⟩ := DS.parts (ok.ok t ht)
    obtain ⟨m, fd, F⟩ := lf.fn t ht
    refine ⟨p3, _, fd, t.ps, m, F.kp, F.bindsN (ok.bi t ht), ⟨fun vs H Q E q => by rw [p1]; exact q.1, fun A outer s H args us vs Q E _ _ _ _ q => ?_⟩⟩
    obtain ⟨_, xs, A', R, _, _, _, _, z⟩ := q
    exact z.elim
  | succ k ih =>
    intro x n hx
    obtain ⟨d, h1, h2⟩ := lookup_map (f := fun d : PD => d.np) hx
    have hG : l.G.lookup x = some d := h1
    obtain ⟨t, ht, e1, e2⟩ := lookup_ds h1
    subst e1 e2 h2
    obtain ⟨S, p1, p2, p3, p4⟩ := DS.parts (ok.ok t ht)
    obtain ⟨m, fd, F⟩ := lf.fn t ht
    refine ⟨p3, _, fd, t.ps, m, F.kp, F.bindsN (ok.bi t ht), ?_⟩
    refine F.ok S (fun vs H Q E q => by rw [p1]; exact q.1) fun cdv A outer s H vs Q E hr q => ?_
    have st := st_of (W := fun cls d _ H => E cls d H) (E := E) (CX := L2.CX P w) (P := P) (w := w) (base := base) (outer := outer) (H := H) S lf hd hr ih (takes_of rfl rfl rfl rfl)
    have e : Phi l.G (k + 1) t.x = runF (Phi l.G k) t.d.N.length t.d.body := by
      show (match l.G.lookup t.x with | some d => runF (Phi l.G k) d.N.length d.body | none => fun _ => none) = _
      rw [hG]
    rw [e] at q
    exact body_ok (X := cxOf (L2.CX P w) P w K mg base t.d.N t.x t.scope (He.ga K t.x) cdv A outer s H E) rfl rfl (PSs.sound t.d.body st p4) p2 (fun C σ H z => z) q
/-- the law itself: nothing leaves it -/
theorem law_ok (ok : l.Ok) (lf : LF K mg l) (hd : (l.ex.all fun x => !(x == ("__debug__" : Str))) = true) {t : DS} (ht : t ∈ l.ds) (hG : l.G.lookup t.x = some t.d) (k : Nat) :
    ∃ fd, FunD K t.x t.x t.params t.body t.scope [] [] (He.ga K t.x) fd ∧ FnOk P w K mg base CX0 (k + 1) (He.ga K t.x) fd t.ps (fun vs H Q E => spOf K mg t.d.np (Phi l.G (k + 1) t.x) vs H Q E0) := by
  obtain ⟨S, p1, p2, p3, p4⟩ := DS.parts (ok.ok t ht)
  obtain ⟨m, fd, F⟩ := lf.fn t ht
  refine ⟨fd, F, F.ok S (fun vs H Q E q => by rw [p1]; exact q.1) fun cdv A outer s H vs Q E hr q => ?_⟩
  have st := st_of (W := wF) (E := E) (CX := CX0) (P := P) (w := w) (base := base) (outer := outer) (H := H) S lf hd hr (phi_ok ok lf hd k) (fun u s' ⟨_, _, _, _, _, _, _, _, _, _, _, _, _, _, _, _, z⟩ => z.elim)
  have e : Phi l.G (k + 1) t.x = runF (Phi l.G k) t.d.N.length t.d.body := by
    show (match l.G.lookup t.x with | some d => runF (Phi l.G k) d.N.length d.body | none => fun _ => none) = _
    rw [hG]
  rw [e] at q
  exact body_ok (X := cxOf CX0 P w K mg base t.d.N t.x t.scope (He.ga K t.x) cdv A outer s H E) rfl rfl (PSs.sound t.d.body st p4) p2 (fun C σ H z => z) q
/-- the script's end -/
theorem law_end {φ : FF} {H : Hp} {a : Addr} {ns : List Int} (hS : SqL K H a (ns.map V.int)) (e : φ [.fr (.scr ns)] = some (.ret (.fr (.bl true)))) : spOf K mg 1 φ [.ref a] H (fun v _ => v = .bl true) E0 := by
  refine ⟨rfl, [.fr (.scr ns)], Fp.emp, Fp.emp, rfl, fun _ z => z.elim, fun _ z => z.elim, ?_, ?_⟩
  · simp only [ROs, RO, RD]
    refine ⟨.ref a, [], Fp.emp, Fp.emp, rfl, ⟨⟨a, rfl, ?_⟩, fun _ z => z⟩, ⟨rfl, fun _ z => z⟩, fun _ z => z.elim, fun q => by simp [Fp.emp]⟩
    exact Same.seq (fun q o h => msk_some.mpr ⟨fun z => z.elim id id, h⟩) hS
  · rw [e]
    intro v H' B _ _ r
    simp only [RO, RD] at r
    exact r.1
end
end PL

/-! PL18: trees told step by step, for simp -/
namespace PL
open PySem PySem.Spec PyProof.Rows L2

section
variable {Φ : Ph} {env e : List OV} {d : D} {c : Str}
/-! ### results -/
@[simp] theorem lm_num : LM = 1000000 := rfl
def kRes (r : Option D) (e : List OV) : Option Ou := r.map fun z => .ok (.fr z) e
@[simp] theorem kRes_some {z : D} : kRes (some z) e = some (.ok (.fr z) e) := rfl
@[simp] theorem kRes_if {p : Prop} [Decidable p] {z : D} : kRes (if p then some z else none) e = if p then some (.ok (.fr z) e) else none := by split <;> rfl
@[simp] theorem kRes_ifn {p : Prop} [Decidable p] {z : D} : kRes (if p then none else some z) e = if p then none else some (.ok (.fr z) e) := by split <;> rfl
/-! ### atoms, names -/
@[simp] theorem ev_int {i : Int} : (PX.int i).ev Φ env = some (.ok (.fr (.int i)) env) := rfl
@[simp] theorem ev_bl {b : Bool} : (PX.bl b).ev Φ env = some (.ok (.fr (.bl b)) env) := rfl
@[simp] theorem ev_non : PX.non.ev Φ env = some (.ok (.fr .non) env) := rfl
@[simp] theorem ev_str {x : Str} : (PX.str x).ev Φ env = some (.ok (.fr (.str x)) env) := rfl
@[simp] theorem ev_dct0 : PX.dct0.ev Φ env = some (.ok (.fr (.dct [] [])) env) := rfl
def rdv (x : OV) (env : List OV) : Option Ou := x.view.map fun y => .ok y env
@[simp] theorem rdv_fr : rdv (.fr d) env = some (.ok (.fr d) env) := rfl
theorem rdv_ol {xs : List OV} {ds : List D} (h : OV.ds xs = some ds) : rdv (.ol xs) env = some (.ok (.vw (.lst ds)) env) := by
  simp [rdv, OV.view, OV.d, h, D.lf]
@[simp] theorem ds_fr {ds : List D} : OV.ds (ds.map .fr) = some ds := by
  induction ds with
  | nil => rfl
  | cons d ds ih => simp [OV.ds, OV.d, ih]
@[simp] theorem ds_nil : OV.ds [] = some [] := rfl
@[simp] theorem rdv_olfr {ds : List D} : rdv (.ol (ds.map .fr)) env = some (.ok (.vw (.lst ds)) env) := rdv_ol ds_fr
@[simp] theorem ev_vr {i : Nat} : (PX.vr i).ev Φ env = rdv (env.getD i .hole) env := by
  show fVar i env = _
  unfold fVar rdv
  rw [List.getD_eq_getElem?_getD]
  cases env[i]? <;> rfl
/-! ### operators -/
def kOpv (o : O2) (x y : OV) (e : List OV) : Option Ou := match x.d, y.d with
  | some a, some b => kRes (o.f a b) e
  | _, _ => none
@[simp] theorem kOpv_fr {o : O2} {a b : D} : kOpv o (.fr a) (.fr b) e = kRes (o.f a b) e := rfl
@[simp] theorem kOpv_vf {o : O2} {a b : D} : kOpv o (.vw a) (.fr b) e = kRes (o.f a b) e := rfl
@[simp] theorem kOpv_fv {o : O2} {a b : D} : kOpv o (.fr a) (.vw b) e = kRes (o.f a b) e := rfl
@[simp] theorem kOpv_vv {o : O2} {a b : D} : kOpv o (.vw a) (.vw b) e = kRes (o.f a b) e := rfl
def kOp2 (o : O2) (x : OV) (r : Option Ou) : Option Ou := bnd r fun y e => kOpv o x y e
@[simp] theorem kOp2_ok {o : O2} {x y : OV} : kOp2 o x (some (.ok y e)) = kOpv o x y e := rfl
def kOp1 (Φ : Ph) (o : O2) (r : Option Ou) (b : PX) : Option Ou := bnd r fun x e => kOp2 o x (b.ev Φ e)
@[simp] theorem kOp1_ok {o : O2} {x : OV} {b : PX} : kOp1 Φ o (some (.ok x e)) b = kOp2 o x (b.ev Φ e) := rfl
theorem op2_eq {o : O2} {a b : PX} : op2 (a.ev Φ) (b.ev Φ) o.f env = kOp1 Φ o (a.ev Φ env) b := by
  unfold op2 kOp1
  congr 1
@[simp] theorem ev_bop {o : O2} {a b : PX} : (PX.bop o a b).ev Φ env = kOp1 Φ o (a.ev Φ env) b := op2_eq
@[simp] theorem ev_cop {o : O2} {a b : PX} : (PX.cop o a b).ev Φ env = kOp1 Φ o (a.ev Φ env) b := op2_eq
@[simp] theorem f_add {i j : Int} : O2.f .add (.int i) (.int j) = some (.int (i + j)) := rfl
@[simp] theorem f_sub {i j : Int} : O2.f .sub (.int i) (.int j) = some (.int (i - j)) := rfl
@[simp] theorem f_mul {i j : Int} : O2.f .mul (.int i) (.int j) = if mulOk i j then some (.int (i * j)) else none := rfl
@[simp] theorem f_fdiv {i j : Int} : O2.f .fdiv (.int i) (.int j) = if divOk j then some (.int (i.fdiv j)) else none := rfl
@[simp] theorem f_mod {i j : Int} : O2.f .mod (.int i) (.int j) = if j = 0 then none else some (.int (i.fmod j)) := rfl
@[simp] theorem f_pow {i j : Int} : O2.f .pow (.int i) (.int j) = if powOk i j then some (.int (i ^ j.toNat)) else none := rfl
@[simp] theorem f_lt {i j : Int} : O2.f .lt (.int i) (.int j) = some (.bl (decide (i < j))) := rfl
@[simp] theorem f_le {i j : Int} : O2.f .le (.int i) (.int j) = some (.bl (decide (i ≤ j))) := rfl
@[simp] theorem f_gt {i j : Int} : O2.f .gt (.int i) (.int j) = some (.bl (decide (j < i))) := rfl
@[simp] theorem f_ge {i j : Int} : O2.f .ge (.int i) (.int j) = some (.bl (decide (j ≤ i))) := rfl
theorem f_eq {a b : D} (h : a.sh 20 = true) (h' : b.sh 20 = true) : O2.f .eq a b = some (.bl (D.eq a b)) := by
  show (D.eqv a b).map D.bl = _
  simp [D.eqv, h, h']
theorem f_ne {a b : D} (h : a.sh 20 = true) (h' : b.sh 20 = true) : O2.f .ne a b = some (.bl (!D.eq a b)) := by
  show (D.eqv a b).map _ = _
  simp [D.eqv, h, h']
@[simp] theorem f_eqi {i j : Int} : O2.f .eq (.int i) (.int j) = some (.bl (decide (i = j))) := by
  rw [f_eq rfl rfl]
  rfl
@[simp] theorem f_nei {i j : Int} : O2.f .ne (.int i) (.int j) = some (.bl (!decide (i = j))) := by
  rw [f_ne rfl rfl]
  rfl
@[simp] theorem f_isn {a : D} : O2.f .isn a .non = some (.bl a.isN) := by cases a <;> rfl
@[simp] theorem f_non {a : D} : O2.f .non a .non = some (.bl !a.isN) := by cases a <;> rfl
@[simp] theorem isN_non : D.isN .non = true := rfl
@[simp] theorem isN_int {i : Int} : D.isN (.int i) = false := rfl
@[simp] theorem isN_tup {xs : List D} : D.isN (.tup xs) = false := rfl
@[simp] theorem isN_lst {xs : List D} : D.isN (.lst xs) = false := rfl
@[simp] theorem isN_bl {b : Bool} : D.isN (.bl b) = false := rfl
@[simp] theorem isN_exc : D.isN (.exc c) = false := rfl
def kUn (op : D → Option D) (r : Option Ou) : Option Ou := bnd r fun x e => match x.d with
  | some a => kRes (op a) e
  | none => none
@[simp] theorem kUn_fr {op : D → Option D} : kUn op (some (.ok (.fr d) e)) = kRes (op d) e := rfl
@[simp] theorem kUn_vw {op : D → Option D} : kUn op (some (.ok (.vw d) e)) = kRes (op d) e := rfl
theorem op1_eq {a : PX} {op : D → Option D} : op1 (a.ev Φ) op env = kUn op (a.ev Φ env) := by
  unfold op1 kUn kRes
  rfl
@[simp] theorem ev_neg {a : PX} : (PX.neg a).ev Φ env = kUn fNeg (a.ev Φ env) := op1_eq
@[simp] theorem fNeg_int {i : Int} : fNeg (.int i) = some (.int (-i)) := rfl
@[simp] theorem ev_isi {t : Ti} {a : PX} : (PX.isi t a).ev Φ env = kUn t.f (a.ev Φ env) := op1_eq
@[simp] theorem ev_isx {t : Bool} {cs ex : List Str} {a : PX} : (PX.isx t cs ex a).ev Φ env = kUn (isxD cs ex) (a.ev Φ env) := op1_eq
def kNot (r : Option Ou) : Option Ou := bnd r fun x e => match x with
  | .fr (.bl b) => some (.ok (.fr (.bl !b)) e)
  | _ => none
@[simp] theorem kNot_ok {b : Bool} : kNot (some (.ok (.fr (.bl b)) e)) = some (.ok (.fr (.bl !b)) e) := rfl
@[simp] theorem ev_not {a : PX} : (PX.not a).ev Φ env = kNot (a.ev Φ env) := rfl
def kBo (Φ : Ph) (and : Bool) (r : Option Ou) (b : PX) : Option Ou := bnd r fun x e => match x with
  | .fr (.bl c) => if c = and then b.ev Φ e else some (.ok (.fr (.bl c)) e)
  | _ => none
@[simp] theorem kBo_ok {and c : Bool} {b : PX} : kBo Φ and (some (.ok (.fr (.bl c)) e)) b = if c = and then b.ev Φ e else some (.ok (.fr (.bl c)) e) := rfl
@[simp] theorem ev_bo {and : Bool} {a b : PX} : (PX.bo and a b).ev Φ env = kBo Φ and (a.ev Φ env) b := rfl
@[simp] theorem ev_bo1 {a : PX} : (PX.bo1 a).ev Φ env = a.ev Φ env := rfl
/-- both sides told: and, or as one -/
theorem kBo_and {p q : Bool} {b : PX} (h : p = true → b.ev Φ e = some (.ok (.fr (.bl q)) e)) : kBo Φ true (some (.ok (.fr (.bl p)) e)) b = some (.ok (.fr (.bl (p && q))) e) := by
  cases p with
  | true => simp [h rfl]
  | false => simp
theorem kBo_or {p q : Bool} {b : PX} (h : p = false → b.ev Φ e = some (.ok (.fr (.bl q)) e)) : kBo Φ false (some (.ok (.fr (.bl p)) e)) b = some (.ok (.fr (.bl (p || q))) e) := by
  cases p with
  | true => simp
  | false => simp [h rfl]
def kIte (Φ : Ph) (r : Option Ou) (a b : PX) : Option Ou := bnd r fun x e => match x with
  | .fr (.bl true) => a.ev Φ e
  | .fr (.bl false) => b.ev Φ e
  | _ => none
@[simp] theorem kIte_ok {c : Bool} {a b : PX} : kIte Φ (some (.ok (.fr (.bl c)) e)) a b = if c = true then a.ev Φ e else b.ev Φ e := by cases c <;> rfl
@[simp] theorem ev_ite {c a b : PX} : (PX.ite c a b).ev Φ env = kIte Φ (c.ev Φ env) a b := rfl
/-! ### arguments -/
def kA2 (x : OV) (r : Option OuA) : Option OuA := bndCA r fun xs e => some (.ok (x :: xs) e)
@[simp] theorem kA2_ok {x : OV} {xs : List OV} : kA2 x (some (.ok xs e)) = some (.ok (x :: xs) e) := rfl
def kA1 (Φ : Ph) (r : Option Ou) (xs : PXs) : Option OuA := bndC r fun x e => kA2 x (xs.ev Φ e)
@[simp] theorem kA1_ok {x : OV} {xs : PXs} : kA1 Φ (some (.ok x e)) xs = kA2 x (xs.ev Φ e) := rfl
@[simp] theorem ev_nil : PXs.nil.ev Φ env = some (.ok [] env) := rfl
@[simp] theorem ev_cons {a : PX} {r : PXs} : (PXs.cons a r).ev Φ env = kA1 Φ (a.ev Φ env) r := rfl
def kTup (r : Option OuA) : Option Ou := bndA r fun xs e => if xs.length ≤ LM then some (.ok (mkT xs) e) else none
@[simp] theorem kTup_ok {xs : List OV} : kTup (some (.ok xs e)) = if xs.length ≤ LM then some (.ok (mkT xs) e) else none := rfl
@[simp] theorem ev_tup {xs : PXs} : (PX.tup xs).ev Φ env = kTup (xs.ev Φ env) := rfl
@[simp] theorem mkT_fr1 {a : D} : mkT [.fr a] = .fr (.tup [a]) := rfl
@[simp] theorem mkT_fr2 {a b : D} : mkT [.fr a, .fr b] = .fr (.tup [a, b]) := rfl
@[simp] theorem mkT_fr3 {a b c : D} : mkT [.fr a, .fr b, .fr c] = .fr (.tup [a, b, c]) := rfl
@[simp] theorem mkT_fr4 {a b c d : D} : mkT [.fr a, .fr b, .fr c, .fr d] = .fr (.tup [a, b, c, d]) := rfl
@[simp] theorem mkT_fr0 : mkT [] = .fr (.tup []) := rfl
def kLst (r : Option OuA) : Option Ou := bndA r fun xs e => if xs.length ≤ LM then some (.ok (.ol xs) e) else none
@[simp] theorem kLst_ok {xs : List OV} : kLst (some (.ok xs e)) = if xs.length ≤ LM then some (.ok (.ol xs) e) else none := rfl
@[simp] theorem ev_lst {xs : PXs} : (PX.lst xs).ev Φ env = kLst (xs.ev Φ env) := rfl
def kSt (r : Option Ou) : Option Ou := bnd r fun x e => x.stl.map fun y => .ok y e
theorem kSt_nv {x : OV} (h : x.d = some d) (n : x.nv = true) : kSt (some (.ok x e)) = some (.ok (.fr d) e) := by
  unfold kSt
  cases x with
  | hole => simp [OV.d] at h
  | fr d' => simp only [OV.d, Option.some.injEq] at h; subst h; rfl
  | vw d' => simp [OV.nv] at n
  | ol xs => simp [bnd, OV.stl, h, n]
  | ot xs => simp [bnd, OV.stl, h, n]
@[simp] theorem kSt_fr : kSt (some (.ok (.fr d) e)) = some (.ok (.fr d) e) := rfl
theorem nvs_frs {ds : List D} : OV.nvs (ds.map .fr) = true := nvs_fr
@[simp] theorem kSt_olfr {ds : List D} : kSt (some (.ok (.ol (ds.map .fr)) e)) = some (.ok (.fr (.lst ds)) e) := kSt_nv (by simp [OV.d]) nvs_frs
@[simp] theorem kSt_ol0 : kSt (some (.ok (.ol []) e)) = some (.ok (.fr (.lst [])) e) := kSt_olfr (ds := [])
@[simp] theorem kSt_ol1 {a : D} : kSt (some (.ok (.ol [.fr a]) e)) = some (.ok (.fr (.lst [a])) e) := kSt_olfr (ds := [a])
@[simp] theorem kSt_ol2 {a b : D} : kSt (some (.ok (.ol [.fr a, .fr b]) e)) = some (.ok (.fr (.lst [a, b])) e) := kSt_olfr (ds := [a, b])
@[simp] theorem kSt_ol3 {a b c : D} : kSt (some (.ok (.ol [.fr a, .fr b, .fr c]) e)) = some (.ok (.fr (.lst [a, b, c])) e) := kSt_olfr (ds := [a, b, c])
@[simp] theorem ev_st {a : PX} : (PX.st a).ev Φ env = kSt (a.ev Φ env) := rfl
@[simp] theorem kSt_if {p : Prop} [Decidable p] {a b : Option Ou} : kSt (if p then a else b) = if p then kSt a else kSt b := by split <;> rfl
@[simp] theorem kSt_none : kSt none = none := rfl
/-! ### calls -/
def kCall (φ : FF) (r : Option OuA) : Option Ou := bndA r fun xs e => match OV.ds xs with
  | some ds => (match φ (ds.map .fr) with
    | some (.ret y) => if OV.nvs xs then some (.ok y e) else y.d.map fun d => .ok (vwl d) e
    | some (.exc c) => some (.exc c)
    | none => none)
  | none => none
@[simp] theorem ev_call {f : Str} {xs : PXs} : (PX.call f xs).ev Φ env = kCall (Φ f) (xs.ev Φ env) := rfl
theorem kCall_ret {φ : FF} {xs : List OV} {ds : List D} {y : OV} (h : OV.ds xs = some ds) (n : OV.nvs xs = true) (q : φ (ds.map .fr) = some (.ret y)) : kCall φ (some (.ok xs e)) = some (.ok y e) := by
  simp [kCall, h, q, n]
theorem kCall_vw {φ : FF} {xs : List OV} {ds : List D} {y : OV} (h : OV.ds xs = some ds) (q : φ (ds.map .fr) = some (.ret y)) (hy : y.d = some d) (hl : d.lf = true) (hn : y = .fr d) : kCall φ (some (.ok xs e)) = some (.ok (.fr d) e) := by
  subst hn
  simp [kCall, h, q]
  intro _
  exact ⟨d, rfl, by simp [vwl, hl]⟩
theorem kCall_exc {φ : FF} {xs : List OV} {ds : List D} (h : OV.ds xs = some ds) (q : φ (ds.map .fr) = some (.exc c)) : kCall φ (some (.ok xs e)) = some (.exc c) := by
  simp [kCall, h, q]
/-- the end of a function that gives data, as a call tells it -/
def kRe (r : Option Re) (e : List OV) : Option Ou := match r with
  | some (.ret y) => some (.ok y e)
  | some (.exc c) => some (.exc c)
  | none => none
@[simp] theorem kRe_ret {y : OV} : kRe (some (.ret y)) e = some (.ok y e) := rfl
@[simp] theorem kRe_exc : kRe (some (.exc c)) e = some (.exc c) := rfl
@[simp] theorem kCall_1 {φ : FF} {a : D} : kCall φ (some (.ok [.fr a] e)) = kRe (φ [.fr a]) e := by
  unfold kCall kRe
  simp only [bndA, OV.ds, OV.d, List.map_cons, List.map_nil, OV.nvs, OV.nv, Bool.and_self, if_true]
@[simp] theorem kCall_2 {φ : FF} {a b : D} : kCall φ (some (.ok [.fr a, .fr b] e)) = kRe (φ [.fr a, .fr b]) e := by
  unfold kCall kRe
  simp only [bndA, OV.ds, OV.d, List.map_cons, List.map_nil, OV.nvs, OV.nv, Bool.and_self, if_true]
@[simp] theorem kCall_3 {φ : FF} {a b c : D} : kCall φ (some (.ok [.fr a, .fr b, .fr c] e)) = kRe (φ [.fr a, .fr b, .fr c]) e := by
  unfold kCall kRe
  simp only [bndA, OV.ds, OV.d, List.map_cons, List.map_nil, OV.nvs, OV.nv, Bool.and_self, if_true]
@[simp] theorem kCall_4 {φ : FF} {a b c d : D} : kCall φ (some (.ok [.fr a, .fr b, .fr c, .fr d] e)) = kRe (φ [.fr a, .fr b, .fr c, .fr d]) e := by
  unfold kCall kRe
  simp only [bndA, OV.ds, OV.d, List.map_cons, List.map_nil, OV.nvs, OV.nv, Bool.and_self, if_true]
@[simp] theorem kCall_5 {φ : FF} {a b c d f : D} : kCall φ (some (.ok [.fr a, .fr b, .fr c, .fr d, .fr f] e)) = kRe (φ [.fr a, .fr b, .fr c, .fr d, .fr f]) e := by
  unfold kCall kRe
  simp only [bndA, OV.ds, OV.d, List.map_cons, List.map_nil, OV.nvs, OV.nv, Bool.and_self, if_true]
/-! ### built-ins -/
def kBi (b : Bi) (r : Option OuA) : Option Ou := bndA r fun xs e => match OV.ds xs with
  | some ds => kRes (b.f ds) e
  | none => none
@[simp] theorem ev_bi {b : Bi} {xs : PXs} : (PX.bi b xs).ev Φ env = kBi b (xs.ev Φ env) := by
  show fBi b (xs.ev Φ) env = _
  unfold fBi kBi kRes
  rfl
@[simp] theorem kBi_1 {b : Bi} {a : D} : kBi b (some (.ok [.fr a] e)) = kRes (b.f [a]) e := rfl
@[simp] theorem kBi_1v {b : Bi} {a : D} : kBi b (some (.ok [.vw a] e)) = kRes (b.f [a]) e := rfl
@[simp] theorem kBi_2 {b : Bi} {a c : D} : kBi b (some (.ok [.fr a, .fr c] e)) = kRes (b.f [a, c]) e := rfl
theorem kBi_ol {b : Bi} {xs : List OV} {ds : List D} (h : OV.ds xs = some ds) : kBi b (some (.ok [.ol xs] e)) = kRes (b.f [.lst ds]) e := by
  simp [kBi, bndA, OV.ds, OV.d, h]
@[simp] theorem kBi_olfr {b : Bi} {ds : List D} : kBi b (some (.ok [.ol (ds.map .fr)] e)) = kRes (b.f [.lst ds]) e := kBi_ol ds_fr
@[simp] theorem bi_len {ds : List D} : Bi.f .len [.lst ds] = some (.int ds.length) := rfl
@[simp] theorem bi_lent {ds : List D} : Bi.f .len [.tup ds] = some (.int ds.length) := rfl
@[simp] theorem bi_lens {ns : List Int} : Bi.f .len [.scr ns] = some (.int ns.length) := by simp [Bi.f, D.itm]
@[simp] theorem bi_abs {i : Int} : Bi.f .abs [.int i] = some (.int (if i < 0 then -i else i)) := rfl
@[simp] theorem bi_int {i : Int} : Bi.f .int [.int i] = some (.int i) := rfl
@[simp] theorem bi_intb {b : Bool} : Bi.f .int [.bl b] = some (.int (if b then 1 else 0)) := rfl
@[simp] theorem bi_max2 {i j : Int} : Bi.f .max2 [.int i, .int j] = some (.int (if j > i then j else i)) := rfl
@[simp] theorem bi_min2 {i j : Int} : Bi.f .min2 [.int i, .int j] = some (.int (if j < i then j else i)) := rfl
theorem ints_map {ns : List Int} : D.intsOf (ns.map D.int) = some ns := by
  induction ns with
  | nil => rfl
  | cons n ns ih => simp [D.intsOf, ih]
@[simp] theorem bi_sum {ns : List Int} : Bi.f .sum [.lst (ns.map D.int)] = some (.int ns.sum) := by simp [Bi.f, ints_map]
theorem bls_map {ns : List Bool} : D.blsOf (ns.map D.bl) = some ns := by
  induction ns with
  | nil => rfl
  | cons n ns ih => simp [D.blsOf, ih]
@[simp] theorem bi_all {ns : List Bool} : Bi.f .all [.lst (ns.map D.bl)] = some (.bl (ns.all id)) := by simp [Bi.f, bls_map]
@[simp] theorem bi_any {ns : List Bool} : Bi.f .any [.lst (ns.map D.bl)] = some (.bl (ns.any id)) := by simp [Bi.f, bls_map]
/-! ### subscripts -/
def kIxv (x y : OV) (e : List OV) : Option Ou := match y.d with
  | some (.int i) => (x.ix i).map fun z => .ok z e
  | _ => none
def kIx2 (x : OV) (r : Option Ou) : Option Ou := bnd r fun y e => kIxv x y e
def kIx1 (Φ : Ph) (r : Option Ou) (b : PX) : Option Ou := bnd r fun x e => kIx2 x (b.ev Φ e)
@[simp] theorem kIx1_ok {x : OV} {b : PX} : kIx1 Φ (some (.ok x e)) b = kIx2 x (b.ev Φ e) := rfl
@[simp] theorem kIx2_ok {x y : OV} : kIx2 x (some (.ok y e)) = kIxv x y e := rfl
@[simp] theorem ev_ix {a b : PX} : (PX.ix a b).ev Φ env = kIx1 Φ (a.ev Φ env) b := by
  rfl
@[simp] theorem kIxv_i {x : OV} {i : Int} : kIxv x (.fr (.int i)) e = (x.ix i).map fun z => .ok z e := rfl
theorem ix_fr {x : D} {ds : List D} {j : Nat} (hx : x.itm = some ds) (h : ds[j]? = some d) : OV.ix (.fr x) (j : Int) = some (.fr d) := by
  have h1 : atI (ds.map OV.fr) (j : Int) = some (.fr d) := atI_nat (by simp [h])
  have h2 : OV.ix (.fr x) (j : Int) = OV.el (.fr x) (j : Int) := by cases x <;> first | rfl | (simp [D.itm] at hx)
  rw [h2]
  simp [OV.el, OV.itm, hx, h1]
theorem ix_vw {x : D} {ds : List D} {j : Nat} (hx : x.itm = some ds) (h : ds[j]? = some d) : OV.ix (.vw x) (j : Int) = some (vwl d) := by
  have h1 : atI (ds.map vwl) (j : Int) = some (vwl d) := atI_nat (by simp [h])
  have h2 : OV.ix (.vw x) (j : Int) = OV.el (.vw x) (j : Int) := rfl
  have h3 : vwl d ≠ .hole := by unfold vwl; split <;> simp
  rw [h2]
  simp only [OV.el, OV.itm, hx, Option.map_some, Option.bind_some, h1]
theorem ix_lst {ds : List D} {j : Nat} (h : ds[j]? = some d) : OV.ix (.fr (.lst ds)) (j : Int) = some (.fr d) := ix_fr rfl h
theorem ix_tup {ds : List D} {j : Nat} (h : ds[j]? = some d) : OV.ix (.fr (.tup ds)) (j : Int) = some (.fr d) := ix_fr rfl h
theorem ix_scr {ns : List Int} {j : Nat} {n : Int} (h : ns[j]? = some n) : OV.ix (.fr (.scr ns)) (j : Int) = some (.fr (.int n)) := ix_fr (ds := ns.map D.int) rfl (by simp [h])
theorem ix_ol {xs : List OV} {j : Nat} (h : xs[j]? = some (.fr d)) : OV.ix (.ol xs) (j : Int) = some (.fr d) := by
  have h2 : OV.ix (.ol xs) (j : Int) = OV.el (.ol xs) (j : Int) := rfl
  rw [h2]
  simp [OV.el, OV.itm, atI_nat h]
@[simp] theorem ix_o0 {a : D} {r : List OV} : OV.ix (.ol (.fr a :: r)) 0 = some (.fr a) := ix_ol (j := 0) rfl
@[simp] theorem ix_o1 {a : D} {x : OV} {r : List OV} : OV.ix (.ol (x :: .fr a :: r)) 1 = some (.fr a) := ix_ol (j := 1) rfl
@[simp] theorem ix_o2 {a : D} {x y : OV} {r : List OV} : OV.ix (.ol (x :: y :: .fr a :: r)) 2 = some (.fr a) := ix_ol (j := 2) rfl
@[simp] theorem ix_o3 {a : D} {x y z : OV} {r : List OV} : OV.ix (.ol (x :: y :: z :: .fr a :: r)) 3 = some (.fr a) := ix_ol (j := 3) rfl
@[simp] theorem ix_o4 {a : D} {x y z w : OV} {r : List OV} : OV.ix (.ol (x :: y :: z :: w :: .fr a :: r)) 4 = some (.fr a) := ix_ol (j := 4) rfl
@[simp] theorem ix_t0 {a : D} {r : List D} : OV.ix (.fr (.tup (a :: r))) 0 = some (.fr a) := ix_tup (j := 0) rfl
@[simp] theorem ix_t1 {a b : D} {r : List D} : OV.ix (.fr (.tup (a :: b :: r))) 1 = some (.fr b) := ix_tup (j := 1) rfl
@[simp] theorem ix_t2 {a b c : D} {r : List D} : OV.ix (.fr (.tup (a :: b :: c :: r))) 2 = some (.fr c) := ix_tup (j := 2) rfl
@[simp] theorem ix_l0 {a : D} {r : List D} : OV.ix (.fr (.lst (a :: r))) 0 = some (.fr a) := ix_lst (j := 0) rfl
@[simp] theorem ix_l1 {a b : D} {r : List D} : OV.ix (.fr (.lst (a :: b :: r))) 1 = some (.fr b) := ix_lst (j := 1) rfl
end

/-! ### statements -/
section
variable {Φ : Ph} {env e : List OV} {d : D} {c : Str} {x : OV}
@[simp] theorem ev_ex {p : PX} : (PV.ex p).ev Φ env = p.ev Φ env := rfl
@[simp] theorem ev_tex {p : PX} : (PTs.ex p).ev Φ env = p.ev Φ env := rfl
def kSet (i : Nat) (r : Option Ou) : Option SR := sB r fun x e => if x.nv && decide (i < e.length) then some (.nx (e.set i x)) else none
theorem kSet_nv {i : Nat} (n : x.nv = true) (h : i < e.length) : kSet i (some (.ok x e)) = some (.nx (e.set i x)) := by simp [kSet, n, h]
@[simp] theorem kSet_fr {i : Nat} : kSet i (some (.ok (.fr d) e)) = if i < e.length then some (.nx (e.set i (.fr d))) else none := by simp [kSet, OV.nv]
@[simp] theorem kSet_olfr {i : Nat} {ds : List D} : kSet i (some (.ok (.ol (ds.map .fr)) e)) = if i < e.length then some (.nx (e.set i (.ol (ds.map .fr)))) else none := by simp [kSet, OV.nv, nvs_frs]
@[simp] theorem kSet_ol0 {i : Nat} : kSet i (some (.ok (.ol []) e)) = if i < e.length then some (.nx (e.set i (.ol []))) else none := by simp [kSet, OV.nv, OV.nvs]
@[simp] theorem kSet_exc {i : Nat} : kSet i (some (.exc c)) = some (.exc c) := rfl
@[simp] theorem ev_set {i : Nat} {v : PV} : (PS.set i v).ev Φ env = kSet i (v.ev Φ env) := rfl
def kRet (r : Option Ou) : Option SR := sB r fun x _ => if x.nv then some (.ret x) else none
@[simp] theorem kRet_fr : kRet (some (.ok (.fr d) e)) = some (.ret (.fr d)) := rfl
@[simp] theorem kRet_olfr {ds : List D} : kRet (some (.ok (.ol (ds.map .fr)) e)) = some (.ret (.ol (ds.map .fr))) := by simp [kRet, OV.nv, nvs_frs]
theorem kRet_nv (n : x.nv = true) : kRet (some (.ok x e)) = some (.ret x) := by simp [kRet, n]
@[simp] theorem kRet_exc : kRet (some (.exc c)) = some (.exc c) := rfl
@[simp] theorem ev_ret {v : PV} : (PS.ret v).ev Φ env = kRet (v.ev Φ env) := rfl
@[simp] theorem ev_raise : (PS.raise c).ev Φ env = some (.exc c) := rfl
def kDrop (r : Option Ou) : Option SR := sB r fun _ e => some (.nx e)
@[simp] theorem kDrop_ok : kDrop (some (.ok x e)) = some (.nx e) := rfl
@[simp] theorem kDrop_exc : kDrop (some (.exc c)) = some (.exc c) := rfl
@[simp] theorem ev_drop {v : PV} : (PS.drop v).ev Φ env = kDrop (v.ev Φ env) := rfl
def kSeq (Φ : Ph) (r : Option SR) (b : PSs) : Option SR := match r with
  | some (.nx e) => b.ev Φ e
  | r => r
@[simp] theorem kSeq_nx {b : PSs} : kSeq Φ (some (.nx e)) b = b.ev Φ e := rfl
@[simp] theorem kSeq_ret {b : PSs} : kSeq Φ (some (.ret x)) b = some (.ret x) := rfl
@[simp] theorem kSeq_exc {b : PSs} : kSeq Φ (some (.exc c)) b = some (.exc c) := rfl
theorem kSeq_if {p : Prop} [Decidable p] {r r' : Option SR} {b : PSs} : kSeq Φ (if p then r else r') b = if p then kSeq Φ r b else kSeq Φ r' b := by split <;> rfl
@[simp] theorem evs_nil : PSs.nil.ev Φ env = some (.nx env) := rfl
@[simp] theorem evs_cons {a : PS} {r : PSs} : (PSs.cons a r).ev Φ env = kSeq Φ (a.ev Φ env) r := by
  show fSeq (a.ev Φ) (r.ev Φ) env = _
  unfold fSeq kSeq
  cases a.ev Φ env with
  | none => rfl
  | some s => cases s <;> rfl
def kIf (Φ : Ph) (r : Option Ou) (a b : PSs) : Option SR := sB r fun x e => match x with
  | .fr (.bl true) => a.ev Φ e
  | .fr (.bl false) => b.ev Φ e
  | _ => none
@[simp] theorem kIf_ok {q : Bool} {a b : PSs} : kIf Φ (some (.ok (.fr (.bl q)) e)) a b = if q = true then a.ev Φ e else b.ev Φ e := by cases q <;> rfl
@[simp] theorem ev_if {t : PTs} {a b : PSs} : (PS.ite t a b).ev Φ env = kIf Φ (t.ev Φ env) a b := rfl
def kFor (Φ : Ph) (r : Option OuD) (tg : Tg) (b : PSs) : Option SR := match r with
  | some (.ok ds e) => forRun tg (b.ev Φ) ds e
  | some (.exc c) => some (.exc c)
  | none => none
@[simp] theorem kFor_ok {ds : List D} {tg : Tg} {b : PSs} : kFor Φ (some (.ok ds e)) tg b = forRun tg (b.ev Φ) ds e := rfl
@[simp] theorem ev_for {it : PIx} {tg : Tg} {b : PSs} : (PS.for it tg b).ev Φ env = kFor Φ (it.ev Φ env) tg b := rfl
@[simp] theorem ev_wh {μ : List OV → Nat} {t : PTs} {b : PSs} : (PS.wh μ t b).ev Φ env = whRun (t.ev Φ) (b.ev Φ) (μ env) env := rfl
def kWh (Φ : Ph) (r : Option Ou) (t : PTs) (b : PSs) (n : Nat) : Option SR := sB r fun x e1 => match x with
    | .fr (.bl true) => (match b.ev Φ e1 with
      | some (.nx e2) => whRun (t.ev Φ) (b.ev Φ) n e2
      | r => r)
    | .fr (.bl false) => some (.nx e1)
    | _ => none
theorem whRun_succ {t : PTs} {b : PSs} {n : Nat} : whRun (t.ev Φ) (b.ev Φ) (n + 1) env = kWh Φ (t.ev Φ env) t b n := rfl
theorem kWh_true {t : PTs} {b : PSs} {n : Nat} {e2 : List OV} (h : b.ev Φ e = some (.nx e2)) : kWh Φ (some (.ok (.fr (.bl true)) e)) t b n = whRun (t.ev Φ) (b.ev Φ) n e2 := by
  simp [kWh, h]
@[simp] theorem kWh_false {t : PTs} {b : PSs} {n : Nat} : kWh Φ (some (.ok (.fr (.bl false)) e)) t b n = some (.nx e) := rfl
/-! ### what is walked -/
def kItR1 (r : Option Ou) : Option OuD := match r with
  | some (.ok x e) => (match x.d with
    | some (.int n) => if okR n then some (.ok (rngI 0 n) e) else none
    | _ => none)
  | some (.exc c) => some (.exc c)
  | none => none
@[simp] theorem kItR1_ok {n : Int} : kItR1 (some (.ok (.fr (.int n)) e)) = if okR n then some (.ok (rngI 0 n) e) else none := rfl
@[simp] theorem ev_rg1 {a : PX} : (PIx.rg1 a).ev Φ env = kItR1 (a.ev Φ env) := rfl
def kItV (r : Option Ou) : Option OuD := match kSt r with
  | some (.ok (.fr d) e) => d.itm.map fun ds => .ok ds e
  | some (.exc c) => some (.exc c)
  | _ => none
@[simp] theorem kItV_l {ds : List D} : kItV (some (.ok (.fr (.lst ds)) e)) = some (.ok ds e) := rfl
@[simp] theorem kItV_t {ds : List D} : kItV (some (.ok (.fr (.tup ds)) e)) = some (.ok ds e) := rfl
@[simp] theorem kItV_s {ns : List Int} : kItV (some (.ok (.fr (.scr ns)) e)) = some (.ok (ns.map D.int) e) := rfl
@[simp] theorem kItV_ol {ds : List D} : kItV (some (.ok (.ol (ds.map .fr)) e)) = some (.ok ds e) := by simp [kItV, D.itm]
@[simp] theorem ev_val {a : PX} : (PIx.val a).ev Φ env = kItV (a.ev Φ env) := by
  show fItV (a.ev Φ) env = _
  rfl
def kItZ (r : Option OuA) : Option OuD := match r with
  | some (.ok [x, y] e) => if x.nv && y.nv then (match x.d, y.d with
    | some (.lst ds), some (.lst es) => some (.ok (List.zipWith (fun a b => D.tup [a, b]) ds es) e)
    | _, _ => none) else none
  | some (.exc c) => some (.exc c)
  | _ => none
@[simp] theorem kItZ_ok {ds es : List D} : kItZ (some (.ok [.fr (.lst ds), .fr (.lst es)] e)) = some (.ok (List.zipWith (fun a b => D.tup [a, b]) ds es) e) := rfl
@[simp] theorem ev_zip {a b : PX} : (PIx.zip a b).ev Φ env = kItZ ((PXs.cons a (.cons b .nil)).ev Φ env) := rfl
def kItR2 (r : Option OuA) : Option OuD := match r with
  | some (.ok [x, y] e) => (match x.d, y.d with
    | some (.int n), some (.int m) => if okR n && okR m then some (.ok (rngI n m) e) else none
    | _, _ => none)
  | some (.exc c) => some (.exc c)
  | _ => none
@[simp] theorem kItR2_ok {n m : Int} : kItR2 (some (.ok [.fr (.int n), .fr (.int m)] e)) = if okR n && okR m then some (.ok (rngI n m) e) else none := rfl
@[simp] theorem ev_rg2 {a b : PX} : (PIx.rg2 a b).ev Φ env = kItR2 ((PXs.cons a (.cons b .nil)).ev Φ env) := rfl
def kItB (r : Option Ou) : Option OuD := match kSt r with
  | some (.ok (.fr (.lst ds)) e) => some (.ok ds.reverse e)
  | some (.exc c) => some (.exc c)
  | _ => none
@[simp] theorem kItB_ok {ds : List D} : kItB (some (.ok (.fr (.lst ds)) e)) = some (.ok ds.reverse e) := rfl
@[simp] theorem ev_rev {a : PX} : (PIx.rev a).ev Φ env = kItB (a.ev Φ env) := rfl
/-! ### functions -/
def kFin (r : Option SR) : Option Re := match r with
  | some (.nx _) => some (.ret (.fr .non))
  | some (.ret y) => some (.ret y)
  | some (.exc c) => some (.exc c)
  | none => none
@[simp] theorem kFin_ret : kFin (some (.ret x)) = some (.ret x) := rfl
@[simp] theorem kFin_exc : kFin (some (.exc c)) = some (.exc c) := rfl
@[simp] theorem kFin_nx : kFin (some (.nx e)) = some (.ret (.fr .non)) := rfl
theorem kFin_if {p : Prop} [Decidable p] {r r' : Option SR} : kFin (if p then r else r') = if p then kFin r else kFin r' := by split <;> rfl
theorem runF_eq {n : Nat} {b : PSs} {xs : List OV} : runF Φ n b xs = kFin (b.ev Φ (xs ++ List.replicate (n - xs.length) .hole)) := by
  unfold runF kFin
  rfl
/-! ### loops over lists -/
theorem for_nil {tg : Tg} {b : SF} : forRun tg b [] env = some (.nx env) := rfl
/-- a loop whose turns all go on: E tells the names by a state -/
theorem for_fold {S : Type} {tg : Tg} {b : SF} (E : S → List OV) (f : S → D → S) : ∀ {ds : List D} {s : S}, (∀ l d r s', ds = l ++ d :: r → s' = l.foldl f s → ∃ e2, tg.bind d (E s') = some e2 ∧ b e2 = some (.nx (E (f s' d)))) → forRun tg b ds (E s) = some (.nx (E (ds.foldl f s)))
  | [], s, _ => rfl
  | d :: ds, s, h => by
    obtain ⟨e2, h1, h2⟩ := h [] d ds s rfl rfl
    simp only [forRun, h1, Option.bind_some, h2, List.foldl_cons]
    exact for_fold E f fun l d' r s' e1 e2 => h (d :: l) d' r s' (by rw [e1]; rfl) (by rw [e2]; rfl)
/-- a loop that ends the function at the first d that is not good -/
theorem for_all {tg : Tg} {b : SF} (good : D → Bool) (E : Option D → List OV) (y : OV) : ∀ {ds : List D} {o : Option D}, (∀ d ∈ ds, ∀ o, ∃ e2, tg.bind d (E o) = some e2 ∧ b e2 = if good d = true then some (.nx (E (some d))) else some (.ret y)) →
    forRun tg b ds (E o) = if ds.all good = true then some (.nx (E (ds.getLast?.or o))) else some (.ret y)
  | [], o, _ => by simp [forRun]
  | d :: ds, o, h => by
    obtain ⟨e2, h1, h2⟩ := h d List.mem_cons_self o
    simp only [forRun, h1, Option.bind_some, h2, List.all_cons]
    by_cases hg : good d = true
    · simp only [hg, if_true, Bool.true_and]
      rw [for_all good E y (fun d' hd' => h d' (List.mem_cons_of_mem _ hd'))]
      congr 3
      cases ds with
      | nil => rfl
      | cons a r =>
        rw [List.getLast?_cons_cons, List.getLast?_eq_some_getLast (List.cons_ne_nil a r)]
        rfl
    · simp [hg]
/-! ### comprehensions -/
theorem lc_map {tg : Tg} {fe : EF} {ws : List Nat} {g : D → OV} : ∀ {ds : List D}, (∀ d ∈ ds, ∃ e2 e3, tg.bind d env = some e2 ∧ fe e2 = some (.ok (g d) e3) ∧ wipeE e3 ws = env ∧ (g d).nv = true) → lcRun tg fYes fe ws ds env = some (ds.map g, env)
  | [], _ => rfl
  | d :: ds, h => by
    obtain ⟨e2, e3, h1, h2, h3, h4⟩ := h d List.mem_cons_self
    simp only [lcRun, h1, Option.bind_some, fYes, h2, h4, if_true, h3]
    rw [lc_map (g := g) fun d' hd' => h d' (List.mem_cons_of_mem _ hd')]
    rfl
theorem lc_filter {tg : Tg} {fc fe : EF} {ws : List Nat} {p : D → Bool} {g : D → OV} : ∀ {ds : List D}, (∀ d ∈ ds, ∃ e2 e3, tg.bind d env = some e2 ∧ fc e2 = some (.ok (.fr (.bl (p d))) e3) ∧ (p d = false → wipeE e3 ws = env) ∧ (p d = true → ∃ e4, fe e3 = some (.ok (g d) e4) ∧ wipeE e4 ws = env ∧ (g d).nv = true)) →
    lcRun tg fc fe ws ds env = some ((ds.filter p).map g, env)
  | [], _ => rfl
  | d :: ds, h => by
    obtain ⟨e2, e3, h1, h2, h3, h4⟩ := h d List.mem_cons_self
    have ih := lc_filter (p := p) (g := g) (ds := ds) fun d' hd' => h d' (List.mem_cons_of_mem _ hd')
    simp only [lcRun, h1, Option.bind_some, h2]
    cases hp : p d with
    | false => simp only [h3 hp]; rw [ih]; simp [hp]
    | true =>
      obtain ⟨e4, k1, k2, k3⟩ := h4 hp
      simp only [k1, k3, if_true, k2]
      rw [ih]
      simp [hp]
def kLc (Φ : Ph) (r : Option OuD) (tg : Tg) (c : PXo) (elt : PX) (ws : List Nat) : Option Ou := match r with
  | some (.ok ds e1) => (match lcRun tg ((c.ev Φ).getD fYes) (elt.ev Φ) ws ds (wipeE e1 ws) with
    | some (ys, e2) => if ys.length ≤ LM then some (.ok (.ol ys) (wipeE e2 ws)) else none
    | none => none)
  | some (.exc c) => some (.exc c)
  | none => none
@[simp] theorem ev_lc {elt : PX} {tg : Tg} {it : PIx} {c : PXo} {ws : List Nat} : (PX.lc elt tg it c ws).ev Φ env = kLc Φ (it.ev Φ env) tg c elt ws := rfl
theorem kLc_ok {ds : List D} {tg : Tg} {co : PXo} {elt : PX} {ws : List Nat} {ys : List OV} {e2 : List OV} (h : lcRun tg ((co.ev Φ).getD fYes) (elt.ev Φ) ws ds (wipeE e ws) = some (ys, e2)) (hl : ys.length ≤ LM) : kLc Φ (some (.ok ds e)) tg co elt ws = some (.ok (.ol ys) (wipeE e2 ws)) := by
  simp [kLc, h, hl]
@[simp] theorem bind_n {i : Nat} : Tg.bind (.n i) d env = if i < env.length then some (env.set i (.fr d)) else none := by
  simp [Tg.bind, bindAll]
end
end PL

namespace PL
open PySem PySem.Spec PyProof.Rows L2
def A_is_whole : PD := ⟨["thing"], 1,
 (.cons (.ret (.ex (.bo true (.isi .int (.vr 0)) (.bo1 (.not (.isi .bool (.vr 0)))))))
 .nil)⟩
def A_divisor : PD := ⟨["one", "other", "rest"], 2,
 (.cons (.set 0 (.ex (.bi .abs (.cons (.vr 0) .nil))))
 (.cons (.set 1 (.ex (.bi .abs (.cons (.vr 1) .nil))))
 (.cons (.wh (muAt 1) (.ex (.cop .gt (.vr 1) (.int 0))) (.cons (.set 2 (.ex (.bop .mod (.vr 0) (.vr 1))))
 (.cons (.set 0 (.ex (.vr 1)))
 (.cons (.set 1 (.ex (.vr 2)))
 .nil))))
 (.cons (.ret (.ex (.vr 0)))
 .nil))))⟩
def A_lowest : PD := ⟨["top", "bottom", "many"], 2,
 (.cons (.set 2 (.ex (.st (.call "divisor" (.cons (.vr 0) (.cons (.vr 1) .nil))))))
 (.cons (.ite (.ex (.cop .lt (.vr 1) (.int 0))) (.cons (.set 2 (.ex (.neg (.vr 2))))
 .nil) .nil)
 (.cons (.ret (.ex (.tup (.cons (.bop .fdiv (.vr 0) (.vr 2)) (.cons (.bop .fdiv (.vr 1) (.vr 2)) .nil)))))
 .nil)))⟩
def A_fraction : PD := ⟨["top", "bottom"], 2,
 (.cons (.ite (.ex (.bo false (.not (.call "is_whole" (.cons (.vr 0) .nil))) (.bo1 (.not (.call "is_whole" (.cons (.vr 1) .nil)))))) (.cons (.raise "NoNumber")
 .nil) .nil)
 (.cons (.ite (.ex (.cop .eq (.vr 1) (.int 0))) (.cons (.raise "NoNumber")
 .nil) .nil)
 (.cons (.ret (.ex (.st (.call "lowest" (.cons (.vr 0) (.cons (.vr 1) .nil))))))
 .nil)))⟩
def A_over : PD := ⟨["one", "other"], 2,
 (.cons (.ite (.ex (.cop .eq (.ix (.vr 1) (.int 0)) (.int 0))) (.cons (.raise "NoNumber")
 .nil) .nil)
 (.cons (.ret (.ex (.st (.call "lowest" (.cons (.bop .mul (.ix (.vr 0) (.int 0)) (.ix (.vr 1) (.int 1))) (.cons (.bop .mul (.ix (.vr 0) (.int 1)) (.ix (.vr 1) (.int 0))) .nil))))))
 .nil))⟩
def A__law_cell_at : PD := ⟨["script", "k"], 2,
 (.cons (.ite (.ex (.cop .lt (.vr 1) (.bi .len (.cons (.vr 0) .nil)))) (.cons (.ret (.ex (.ix (.vr 0) (.vr 1))))
 .nil) .nil)
 (.cons (.ret (.ex (.int 0)))
 .nil))⟩
def A__law_divisor : PD := ⟨["one", "other", "rest"], 2,
 (.cons (.set 0 (.ex (.bi .abs (.cons (.vr 0) .nil))))
 (.cons (.set 1 (.ex (.bi .abs (.cons (.vr 1) .nil))))
 (.cons (.wh (muAt 1) (.ex (.cop .gt (.vr 1) (.int 0))) (.cons (.set 2 (.ex (.bop .mod (.vr 0) (.vr 1))))
 (.cons (.set 0 (.ex (.vr 1)))
 (.cons (.set 1 (.ex (.vr 2)))
 .nil))))
 (.cons (.ret (.ex (.vr 0)))
 .nil))))⟩
def A__law_lowest : PD := ⟨["top", "bottom", "by"], 2,
 (.cons (.set 2 (.ex (.st (.call "_law_divisor" (.cons (.vr 0) (.cons (.vr 1) .nil))))))
 (.cons (.ret (.ex (.tup (.cons (.bop .fdiv (.vr 0) (.vr 2)) (.cons (.bop .fdiv (.vr 1) (.vr 2)) .nil)))))
 .nil))⟩
def A__law_number_by : PD := ⟨["cell"], 1,
 (.cons (.ite (.ex (.cop .eq (.bop .mod (.vr 0) (.int 3)) (.int 0))) (.cons (.ret (.ex (.int 0)))
 .nil) .nil)
 (.cons (.ite (.ex (.cop .eq (.bop .mod (.vr 0) (.int 3)) (.int 1))) (.cons (.ret (.ex (.bop .sub (.bop .mod (.bop .mul (.bop .fdiv (.vr 0) (.int 3)) (.int 982451653)) (.bop .add (.bop .mul (.int 2) (.bop .pow (.int 10) (.int 60))) (.int 1))) (.bop .pow (.int 10) (.int 60)))))
 .nil) .nil)
 (.cons (.ret (.ex (.bop .sub (.bop .mod (.bop .fdiv (.vr 0) (.int 3)) (.int 19)) (.int 9))))
 .nil)))⟩
def A__law_thing_by : PD := ⟨["cell", "some"], 1,
 (.cons (.set 1 (.ex (.st (.lst (.cons (.bl true) (.cons (.bl false) (.cons .non (.cons (.str "3") (.cons (.str "") (.cons (.lst .nil) (.cons (.lst (.cons (.int 1) .nil)) (.cons (.tup .nil) (.cons (.tup (.cons (.int 1) (.cons (.int 2) .nil))) (.cons .dct0 (.cons (.str "a") (.cons (.tup (.cons (.int 3) .nil)) .nil))))))))))))))))
 (.cons (.ret (.ex (.ix (.vr 1) (.bop .mod (.vr 0) (.int 12)))))
 .nil))⟩
def A__law_other : PD := ⟨["caught"], 1,
 (.cons (.ite (.ex (.bo false (.isx false ["NoRow"] ["NoNumber", "NoRow", "NoRule", "NoAnswer", "NoText", "NoName", "NoHouse", "NoWord"] (.vr 0)) (.bo false (.isx false ["NoRule"] ["NoNumber", "NoRow", "NoRule", "NoAnswer", "NoText", "NoName", "NoHouse", "NoWord"] (.vr 0)) (.bo1 (.isx false ["NoAnswer"] ["NoNumber", "NoRow", "NoRule", "NoAnswer", "NoText", "NoName", "NoHouse", "NoWord"] (.vr 0)))))) (.cons (.ret (.ex (.bl true)))
 .nil) .nil)
 (.cons (.ite (.ex (.bo false (.isx false ["NoText"] ["NoNumber", "NoRow", "NoRule", "NoAnswer", "NoText", "NoName", "NoHouse", "NoWord"] (.vr 0)) (.bo1 (.isx false ["NoName"] ["NoNumber", "NoRow", "NoRule", "NoAnswer", "NoText", "NoName", "NoHouse", "NoWord"] (.vr 0))))) (.cons (.ret (.ex (.bl true)))
 .nil) .nil)
 (.cons (.ret (.ex (.bo false (.isx false ["NoHouse"] ["NoNumber", "NoRow", "NoRule", "NoAnswer", "NoText", "NoName", "NoHouse", "NoWord"] (.vr 0)) (.bo1 (.isx false ["NoWord"] ["NoNumber", "NoRow", "NoRule", "NoAnswer", "NoText", "NoName", "NoHouse", "NoWord"] (.vr 0))))))
 .nil)))⟩
def A__law_right : PD := ⟨["caught"], 1,
 (.cons (.ite (.ex (.bo false (.cop .isn (.vr 0) .non) (.bo1 (.not (.isx false ["NoNumber"] ["NoNumber", "NoRow", "NoRule", "NoAnswer", "NoText", "NoName", "NoHouse", "NoWord"] (.vr 0)))))) (.cons (.ret (.ex (.bl false)))
 .nil) .nil)
 (.cons (.ret (.ex (.bo true (.isx false ["ValueError"] ["NoNumber", "NoRow", "NoRule", "NoAnswer", "NoText", "NoName", "NoHouse", "NoWord"] (.vr 0)) (.bo1 (.not (.call "_law_other" (.cons (.vr 0) .nil)))))))
 .nil))⟩
def A__law_made : PD := ⟨["top", "bottom", "caught", "e"], 2,
 (.cons (.set 2 (.ex .non))
 (.cons (.try (.drop (.ex (.call "fraction" (.cons (.vr 0) (.cons (.vr 1) .nil))))) ["NoNumber", "NoRow", "NoRule", "NoAnswer", "NoText", "NoName", "NoHouse", "NoWord"] 3 (.cons (.set 2 (.ex (.vr 3)))
 .nil))
 (.cons (.ret (.ex (.vr 2)))
 .nil)))⟩
def A__law_divided : PD := ⟨["one", "other", "caught", "e"], 2,
 (.cons (.set 2 (.ex .non))
 (.cons (.try (.drop (.ex (.call "over" (.cons (.vr 0) (.cons (.vr 1) .nil))))) ["NoNumber", "NoRow", "NoRule", "NoAnswer", "NoText", "NoName", "NoHouse", "NoWord"] 3 (.cons (.set 2 (.ex (.vr 3)))
 .nil))
 (.cons (.ret (.ex (.vr 2)))
 .nil)))⟩
def A_law_k02 : PD := ⟨["script", "number", "thing", "second", "way", "pair", "good", "top", "one"], 1,
 (.cons (.set 1 (.ex (.st (.call "_law_number_by" (.cons (.call "_law_cell_at" (.cons (.vr 0) (.cons (.int 0) .nil))) .nil)))))
 (.cons (.set 2 (.ex (.st (.call "_law_thing_by" (.cons (.call "_law_cell_at" (.cons (.vr 0) (.cons (.int 1) .nil))) .nil)))))
 (.cons (.set 3 (.ex (.st (.call "_law_thing_by" (.cons (.call "_law_cell_at" (.cons (.vr 0) (.cons (.int 2) .nil))) .nil)))))
 (.cons (.set 4 (.ex (.bop .mod (.call "_law_cell_at" (.cons (.vr 0) (.cons (.int 3) .nil))) (.int 4))))
 (.cons (.set 5 (.ex (.st (.ix (.lst (.cons (.tup (.cons (.vr 1) (.cons (.int 0) .nil))) (.cons (.tup (.cons (.vr 2) (.cons (.vr 1) .nil))) (.cons (.tup (.cons (.vr 1) (.cons (.vr 2) .nil))) (.cons (.tup (.cons (.vr 2) (.cons (.vr 3) .nil))) .nil))))) (.vr 4)))))
 (.cons (.ite (.ex (.not (.call "_law_right" (.cons (.call "_law_made" (.cons (.ix (.vr 5) (.int 0)) (.cons (.ix (.vr 5) (.int 1)) .nil))) .nil)))) (.cons (.ret (.ex (.bl false)))
 .nil) .nil)
 (.cons (.set 6 (.ex (.bop .add (.int 1) (.bop .mod (.call "_law_cell_at" (.cons (.vr 0) (.cons (.int 4) .nil))) (.int 1000003)))))
 (.cons (.ite (.ex (.cop .ne (.call "fraction" (.cons (.vr 1) (.cons (.vr 6) .nil))) (.call "_law_lowest" (.cons (.vr 1) (.cons (.vr 6) .nil))))) (.cons (.ret (.ex (.bl false)))
 .nil) .nil)
 (.cons (.set 7 (.ex (.int 0)))
 (.cons (.ite (.ex (.cop .eq (.bop .mod (.call "_law_cell_at" (.cons (.vr 0) (.cons (.int 5) .nil))) (.int 2)) (.int 1))) (.cons (.set 7 (.ex (.bop .sub (.bop .mod (.call "_law_cell_at" (.cons (.vr 0) (.cons (.int 6) .nil))) (.int 2000001)) (.int 1000000))))
 .nil) .nil)
 (.cons (.set 8 (.ex (.st (.call "_law_lowest" (.cons (.vr 7) (.cons (.vr 6) .nil))))))
 (.cons (.ite (.ex (.not (.call "_law_right" (.cons (.call "_law_divided" (.cons (.vr 8) (.cons (.tup (.cons (.int 0) (.cons (.int 1) .nil))) .nil))) .nil)))) (.cons (.ret (.ex (.bl false)))
 .nil) .nil)
 (.cons (.ret (.ex (.bo true (.cop .isn (.call "_law_divided" (.cons (.vr 8) (.cons (.tup (.cons (.vr 6) (.cons (.int 1) .nil))) .nil))) .non) (.bo1 (.cop .eq (.call "over" (.cons (.vr 8) (.cons (.tup (.cons (.vr 6) (.cons (.int 1) .nil))) .nil))) (.call "_law_lowest" (.cons (.vr 7) (.cons (.bop .mul (.vr 6) (.vr 6)) .nil))))))))
 .nil)))))))))))))⟩
end PL
namespace PL
open PySem PySem.Spec PyProof.Rows L2
/-! PU1: sizes; the common functions -/
/-- less than n bits -/
def Bt (n : Nat) (i : Int) : Prop := i.natAbs < 2 ^ n
theorem Bt.mono {n m : Nat} {i : Int} (h : Bt n i) (e : n ≤ m) : Bt m i := Nat.lt_of_lt_of_le h (Nat.pow_le_pow_right (by decide) e)
theorem Bt.mul {n m : Nat} {i j : Int} (h : Bt n i) (h' : Bt m j) : Bt (n + m) (i * j) := by
  unfold Bt at *
  rw [Int.natAbs_mul, Nat.pow_add]
  exact Nat.mul_lt_mul'' h h'
theorem Bt.add {n : Nat} {i j : Int} (h : Bt n i) (h' : Bt n j) : Bt (n + 1) (i + j) := by
  unfold Bt at *
  have := Int.natAbs_add_le i j
  rw [Nat.pow_succ]
  omega
theorem Bt.neg {n : Nat} {i : Int} (h : Bt n i) : Bt n (-i) := by unfold Bt at *; rwa [Int.natAbs_neg]
theorem Bt.sub {n : Nat} {i j : Int} (h : Bt n i) (h' : Bt n j) : Bt (n + 1) (i - j) := by rw [Int.sub_eq_add_neg]; exact h.add h'.neg
theorem Bt.of_lt {n : Nat} {i : Int} {N : Nat} (h : i.natAbs < N) (e : N ≤ 2 ^ n) : Bt n i := Nat.lt_of_lt_of_le h e
theorem Bt.le {n : Nat} {i j : Int} (h : Bt n j) (e : i.natAbs ≤ j.natAbs) : Bt n i := Nat.lt_of_le_of_lt e h
theorem log_lt {n k : Nat} (hk : 0 < k) (h : n < 2 ^ k) : n.log2 < k := by
  by_cases e : n = 0
  · subst e; simpa using hk
  · exact (Nat.log2_lt e).mpr h
theorem mulOk_of {n m : Nat} {i j : Int} (h : Bt n i) (h' : Bt m j) (e : n + m ≤ 900000) : mulOk i j = true := by
  unfold mulOk
  simp only [Bool.or_eq_true, decide_eq_true_eq]
  refine .inr ?_
  have h1 := log_lt (n := i.natAbs) (k := n + 1) (by omega) (Nat.lt_of_lt_of_le h (Nat.pow_le_pow_right (by decide) (by omega)))
  have h2 := log_lt (n := j.natAbs) (k := m + 1) (by omega) (Nat.lt_of_lt_of_le h' (Nat.pow_le_pow_right (by decide) (by omega)))
  omega
theorem divOk_of {n : Nat} {j : Int} (h0 : j ≠ 0) (h : Bt n j) (e : n ≤ 9000) : divOk j = true := by
  unfold divOk
  simp only [Bool.and_eq_true, decide_eq_true_eq, ne_eq]
  refine ⟨h0, ?_⟩
  by_cases e0 : n = 0
  · subst e0
    unfold Bt at h
    simp at h
    exact absurd h h0
  · exact Nat.lt_of_lt_of_le (log_lt (by omega) h) e
/-- a factor below 2^64 -/
theorem mulOk_small {i j : Int} (h : i.natAbs < 18446744073709551616) : mulOk i j = true := by
  unfold mulOk
  simp only [Bool.or_eq_true, decide_eq_true_eq]
  exact .inl (.inl h)
theorem mulOk_small' {i j : Int} (h : j.natAbs < 18446744073709551616) : mulOk i j = true := by
  unfold mulOk
  simp only [Bool.or_eq_true, decide_eq_true_eq]
  exact .inl (.inr h)
theorem divOk_small {j : Int} (h0 : j ≠ 0) (h : j.natAbs < 18446744073709551616) : divOk j = true := divOk_of (n := 64) h0 h (by decide)

/-! ### the functions -/
/-- what "divisor" does -/
def S_div (Φ : Ph) (f : Str) : Prop := ∀ a b : Int, Φ f [.fr (.int a), .fr (.int b)] = some (.ret (.fr (.int (Int.gcd a b))))
theorem div_loop {Φ : Ph} {t : PTs} {b : PSs} (ht : t = .ex (.cop .gt (.vr 1) (.int 0))) (hb : b = .cons (.set 2 (.ex (.bop .mod (.vr 0) (.vr 1)))) (.cons (.set 0 (.ex (.vr 1))) (.cons (.set 1 (.ex (.vr 2))) .nil))) :
    ∀ (n x y : Nat) (r : OV), y < n → ∃ r', whRun (t.ev Φ) (b.ev Φ) n [.fr (.int x), .fr (.int y), r] = some (.nx [.fr (.int (Nat.gcd x y)), .fr (.int 0), r']) := by
  subst ht hb
  intro n
  induction n with
  | zero => intro x y r h; omega
  | succ n ih =>
    intro x y r h
    rw [whRun_succ]
    by_cases hy : y = 0
    · subst hy
      exact ⟨r, by simp⟩
    · have h0 : (0 : Int) < (y : Int) := by omega
      have h1 : ¬ (y : Int) = 0 := by omega
      obtain ⟨r', q⟩ := ih y (x % y) (.fr (.int ((x % y : Nat) : Int))) (by have := Nat.mod_lt x (Nat.pos_of_ne_zero hy); omega)
      refine ⟨r', ?_⟩
      simp only [ev_tex, ev_cop, ev_vr, List.getD_cons_succ, List.getD_cons_zero, rdv_fr, kOp1_ok, ev_int, kOp2_ok, kOpv_fr, f_gt, kRes_some, h0, decide_true]
      rw [kWh_true (e2 := [.fr (.int y), .fr (.int ((x % y : Nat) : Int)), .fr (.int ((x % y : Nat) : Int))])]
      · rw [q]
        congr 5
        rw [Nat.gcd_comm x y, Nat.gcd_rec y x, Nat.gcd_comm]
      · have e : (x : Int).fmod (y : Int) = ((x % y : Nat) : Int) := by
          rw [Int.fmod_eq_emod_of_nonneg _ (by omega)]
          rfl
        simp [h1, e, hy]
theorem divisor_ok {Φ : Ph} (a b : Int) : runF Φ A_divisor.N.length A_divisor.body [.fr (.int a), .fr (.int b)] = some (.ret (.fr (.int (Int.gcd a b)))) := by
  have ab : ∀ i : Int, (if i < 0 then -i else i) = (i.natAbs : Int) := fun i => by split <;> omega
  rw [runF_eq]
  simp only [A_divisor]
  obtain ⟨r', q⟩ := div_loop (Φ := Φ) rfl rfl (b.natAbs + 1) a.natAbs b.natAbs .hole (by omega)
  simp [ab, muAt, q, Int.gcd]
/-- a fraction in lowest terms -/
def lowF (a b : Int) : Int × Int := (a / (Int.gcd a b : Int), b / (Int.gcd a b : Int))
def eF (f : Int × Int) : D := .tup [.int f.1, .int f.2]
theorem gcd_pos {a b : Int} (h : 0 < b) : 0 < (Int.gcd a b : Int) := by
  have : 0 < Int.gcd a b := Int.gcd_pos_of_ne_zero_right a (by omega)
  omega
theorem gcd_le {a b : Int} (h : 0 < b) : (Int.gcd a b : Int) ≤ b := by
  have := Int.gcd_dvd_right a b
  exact Int.le_of_dvd h this
theorem fdiv_gcd {a b c : Int} (h : 0 < b) : c.fdiv (Int.gcd a b : Int) = c / (Int.gcd a b : Int) := Int.fdiv_eq_ediv_of_nonneg _ (by have := gcd_pos (a := a) h; omega)
def S_low (Φ : Ph) (f : Str) : Prop := ∀ a b : Int, 0 < b → Bt 9000 b → Φ f [.fr (.int a), .fr (.int b)] = some (.ret (.fr (eF (lowF a b))))
theorem divOk_gcd {a b : Int} (h : 0 < b) (h2 : Bt 9000 b) : divOk (Int.gcd a b : Int) = true := by
  have h3 := gcd_pos (a := a) h
  have h4 := gcd_le (a := a) h
  exact divOk_of (by omega) (h2.le (by omega)) (Nat.le_refl _)
theorem lowest_ok {Φ : Ph} (hd : S_div Φ "divisor") (a b : Int) (h : 0 < b) (h2 : Bt 9000 b) : runF Φ A_lowest.N.length A_lowest.body [.fr (.int a), .fr (.int b)] = some (.ret (.fr (eF (lowF a b)))) := by
  have e : ¬ b < 0 := by omega
  have h3 := divOk_gcd (a := a) h h2
  rw [runF_eq]
  simp [A_lowest, hd a b, h3, e, fdiv_gcd h, eF, lowF]
theorem lowest1_ok {Φ : Ph} (hd : S_div Φ "_law_divisor") (a b : Int) (h : 0 < b) (h2 : Bt 9000 b) : runF Φ A__law_lowest.N.length A__law_lowest.body [.fr (.int a), .fr (.int b)] = some (.ret (.fr (eF (lowF a b)))) := by
  have h3 := divOk_gcd (a := a) h h2
  rw [runF_eq]
  simp [A__law_lowest, hd a b, h3, fdiv_gcd h, eF, lowF]
/-- the script's cells -/
def S_cell (Φ : Ph) : Prop := ∀ (ns : List Int) (k : Nat), Φ "_law_cell_at" [.fr (.scr ns), .fr (.int k)] = some (.ret (.fr (.int (ns.getD k 0))))
theorem cell_ok {Φ : Ph} (ns : List Int) (k : Nat) : runF Φ A__law_cell_at.N.length A__law_cell_at.body [.fr (.scr ns), .fr (.int k)] = some (.ret (.fr (.int (ns.getD k 0)))) := by
  rw [runF_eq]
  by_cases h : k < ns.length
  · have e : ns[k]? = some ns[k] := by simp [h]
    simp [A__law_cell_at, h, ix_scr e]
  · have e : ns[k]? = none := by simp; omega
    simp [A__law_cell_at, h, e]
/-- scaling does not change the lowest terms -/
theorem lowF_mul {a b k : Int} (hk : 0 < k) : lowF (k * a) (k * b) = lowF a b := by
  unfold lowF
  have e : (Int.gcd (k * a) (k * b) : Int) = k * (Int.gcd a b : Int) := by
    rw [Int.gcd_mul_left]
    push_cast
    rw [Int.natAbs_of_nonneg (by omega)]
  rw [e, Int.mul_ediv_mul_of_pos _ _ hk, Int.mul_ediv_mul_of_pos _ _ hk]
theorem sh_int {i : Int} {n : Nat} : D.sh (.int i) n = true := by cases n <;> rfl
theorem sh_eF {f : Int × Int} : (eF f).sh 20 = true := by simp [eF, D.sh, D.shs]
theorem eq_eF {f g : Int × Int} : D.eq (eF f) (eF g) = decide (f = g) := by
  obtain ⟨a, b⟩ := f
  obtain ⟨c, d⟩ := g
  simp only [eF, D.eq, D.eqs, Bool.and_true, Prod.mk.injEq]
  rw [Bool.eq_iff_iff]
  simp
@[simp] theorem f_ne_eF {f g : Int × Int} : O2.f .ne (eF f) (eF g) = some (.bl (!decide (f = g))) := by rw [f_ne sh_eF sh_eF, eq_eF]
@[simp] theorem f_eq_eF {f g : Int × Int} : O2.f .eq (eF f) (eF g) = some (.bl (decide (f = g))) := by rw [f_eq sh_eF sh_eF, eq_eF]
@[simp] theorem ix_eF0 {f : Int × Int} : OV.ix (.fr (eF f)) 0 = some (.fr (.int f.1)) := rfl
@[simp] theorem ix_eF1 {f : Int × Int} : OV.ix (.fr (eF f)) 1 = some (.fr (.int f.2)) := rfl
@[simp] theorem isN_eF {f : Int × Int} : D.isN (eF f) = false := rfl
theorem Phi_at {G : Prg} {x : Str} {d : PD} {k : Nat} (h : G.lookup x = some d) : Phi G (k + 1) x = runF (Phi G k) d.N.length d.body := by
  show (match G.lookup x with | some d => runF (Phi G k) d.N.length d.body | none => fun _ => none) = _
  rw [h]
theorem divisor1_ok {Φ : Ph} (a b : Int) : runF Φ A__law_divisor.N.length A__law_divisor.body [.fr (.int a), .fr (.int b)] = some (.ret (.fr (.int (Int.gcd a b)))) := divisor_ok a b
end PL

namespace PL
open PySem PySem.Spec PyProof.Rows L2
/-! PUk02 -/
def whole : D → Bool
  | .int _ => true
  | _ => false
def noExc : D → Bool
  | .exc _ => false
  | _ => true
def S_whole (Φ : Ph) : Prop := ∀ d : D, noExc d = true → Φ "is_whole" [.fr d] = some (.ret (.fr (.bl (whole d))))
theorem is_whole_ok {Φ : Ph} (d : D) (h : noExc d = true) : runF Φ A_is_whole.N.length A_is_whole.body [.fr d] = some (.ret (.fr (.bl (whole d)))) := by
  rw [runF_eq]
  cases d <;> simp [A_is_whole, Ti.f, whole] at h ⊢
  simp [noExc] at h
def S_frac (Φ : Ph) : Prop := (∀ d e : D, noExc d = true → noExc e = true → (whole d = false ∨ whole e = false ∨ e = .int 0) → Φ "fraction" [.fr d, .fr e] = some (.exc "NoNumber")) ∧
  ∀ a b : Int, 0 < b → Bt 9000 b → Φ "fraction" [.fr (.int a), .fr (.int b)] = some (.ret (.fr (eF (lowF a b))))
theorem fraction_ok {Φ : Ph} (hw : S_whole Φ) (hl : S_low Φ "lowest") : (∀ d e : D, noExc d = true → noExc e = true → (whole d = false ∨ whole e = false ∨ e = .int 0) → runF Φ A_fraction.N.length A_fraction.body [.fr d, .fr e] = some (.exc "NoNumber")) ∧
    ∀ a b : Int, 0 < b → Bt 9000 b → runF Φ A_fraction.N.length A_fraction.body [.fr (.int a), .fr (.int b)] = some (.ret (.fr (eF (lowF a b)))) := by
  refine ⟨fun d e h1 h2 h => ?_, fun a b h1 h2 => ?_⟩
  · rw [runF_eq]
    have q1 := hw d h1
    have q2 := hw e h2
    cases hd : whole d with
    | false => simp [A_fraction, q1, q2, hd]
    | true =>
      cases he : whole e with
      | false => simp [A_fraction, q1, q2, hd, he]
      | true =>
        have e0 : e = .int 0 := by
          rcases h with h | h | h
          · rw [hd] at h; cases h
          · rw [he] at h; cases h
          · exact h
        subst e0
        simp [A_fraction, q1, q2, hd, he]
  · rw [runF_eq]
    have q1 := hw (.int a) rfl
    have q2 := hw (.int b) rfl
    have q3 := hl a b h1 h2
    have hb : ¬ b = 0 := by omega
    simp [A_fraction, q1, q2, q3, whole, hb]
def S_over (Φ : Ph) : Prop := (∀ f : Int × Int, Φ "over" [.fr (eF f), .fr (eF (0, 1))] = some (.exc "NoNumber")) ∧
  ∀ (f : Int × Int) (g : Int), 0 < g → g.natAbs < 18446744073709551616 → 0 < f.2 → Bt 64 f.2 → Φ "over" [.fr (eF f), .fr (eF (g, 1))] = some (.ret (.fr (eF (lowF f.1 (f.2 * g)))))
theorem over_ok {Φ : Ph} (hl : S_low Φ "lowest") : (∀ f : Int × Int, runF Φ A_over.N.length A_over.body [.fr (eF f), .fr (eF (0, 1))] = some (.exc "NoNumber")) ∧
    ∀ (f : Int × Int) (g : Int), 0 < g → g.natAbs < 18446744073709551616 → 0 < f.2 → Bt 64 f.2 → runF Φ A_over.N.length A_over.body [.fr (eF f), .fr (eF (g, 1))] = some (.ret (.fr (eF (lowF f.1 (f.2 * g))))) := by
  refine ⟨fun f => ?_, fun f g h1 h2 h3 h4 => ?_⟩
  · rw [runF_eq]
    simp [A_over]
  · rw [runF_eq]
    have hg : ¬ g = 0 := by omega
    have m1 : mulOk f.1 1 = true := mulOk_small' (by decide)
    have m2 : mulOk f.2 g = true := mulOk_small' h2
    have q := hl f.1 (f.2 * g) (Int.mul_pos h3 h1) ((h4.mul (m := 64) (by exact h2)).mono (by decide))
    simp [A_over, hg, m1, m2, q]
theorem number_ok {Φ : Ph} (c : Int) : ∃ n : Int, runF Φ A__law_number_by.N.length A__law_number_by.body [.fr (.int c)] = some (.ret (.fr (.int n))) := by
  rw [runF_eq]
  have d3 : divOk 3 = true := by decide +kernel
  have m1 : ∀ i : Int, mulOk i 982451653 = true := fun i => mulOk_small' (by decide)
  have p1 : powOk 10 60 = true := by decide +kernel
  have m2 : ∀ i : Int, mulOk 2 i = true := fun i => mulOk_small (by decide)
  by_cases h0 : c.fmod 3 = 0
  · exact ⟨_, by simp [A__law_number_by, h0]; rfl⟩
  · by_cases h1 : c.fmod 3 = 1
    · exact ⟨_, by simp [A__law_number_by, h0, h1, d3, m1, p1, m2]; rfl⟩
    · exact ⟨_, by simp [A__law_number_by, h0, h1, d3]; rfl⟩
theorem kSt_ol' {xs : List OV} {e : List OV} : kSt (some (.ok (.ol xs) e)) = (OV.ds xs).map fun ds => .ok (if OV.nvs xs = true then .fr (.lst ds) else vwl (.lst ds)) e := by
  simp only [kSt, bnd, OV.stl, OV.d, OV.nv]
  cases OV.ds xs <;> rfl
theorem kSt_ol {xs : List OV} {ds : List D} {e : List OV} (h : OV.ds xs = some ds) (n : OV.nvs xs = true) : kSt (some (.ok (.ol xs) e)) = some (.ok (.fr (.lst ds)) e) := kSt_nv (by simp [OV.d, h]) n
theorem fmod_range (c : Int) {n : Int} (h : 0 < n) : 0 ≤ c.fmod n ∧ c.fmod n < n := ⟨Int.fmod_nonneg_of_pos c h, Int.fmod_lt_of_pos c h⟩
def things : List D := [.bl true, .bl false, .non, .str "3", .str "", .lst [], .lst [.int 1], .tup [], .tup [.int 1, .int 2], .dct [] [], .str "a", .tup [.int 3]]
theorem thing_ok {Φ : Ph} (c : Int) : ∃ d : D, runF Φ A__law_thing_by.N.length A__law_thing_by.body [.fr (.int c)] = some (.ret (.fr d)) ∧ whole d = false ∧ noExc d = true := by
  obtain ⟨h1, h2⟩ := fmod_range c (n := 12) (by decide)
  obtain ⟨k, hk⟩ : ∃ k : Nat, c.fmod 12 = k := ⟨(c.fmod 12).toNat, by omega⟩
  have hk2 : k < things.length := by
    have : things.length = 12 := rfl
    omega
  have hg : things[k]? = some things[k] := by simp [hk2]
  refine ⟨things[k], ?_, ?_⟩
  · rw [runF_eq]
    have r := ix_lst hg
    simp only [things] at r
    simp [A__law_thing_by, kSt_ol', OV.ds, OV.d, OV.nvs, OV.nv, hk, r, things]
  · have : ∀ d ∈ things, whole d = false ∧ noExc d = true := by decide
    exact this _ (List.getElem_mem hk2)
abbrev exl0 : List Str := ["NoNumber", "NoRow", "NoRule", "NoAnswer", "NoText", "NoName", "NoHouse", "NoWord"]
theorem isx_nn0 : isxD ["NoRow"] exl0 (.exc "NoNumber") = some (.bl false) := by kernel_rfl
theorem isx_nn1 : isxD ["NoRule"] exl0 (.exc "NoNumber") = some (.bl false) := by kernel_rfl
theorem isx_nn2 : isxD ["NoAnswer"] exl0 (.exc "NoNumber") = some (.bl false) := by kernel_rfl
theorem isx_nn3 : isxD ["NoText"] exl0 (.exc "NoNumber") = some (.bl false) := by kernel_rfl
theorem isx_nn4 : isxD ["NoName"] exl0 (.exc "NoNumber") = some (.bl false) := by kernel_rfl
theorem isx_nn5 : isxD ["NoHouse"] exl0 (.exc "NoNumber") = some (.bl false) := by kernel_rfl
theorem isx_nn6 : isxD ["NoWord"] exl0 (.exc "NoNumber") = some (.bl false) := by kernel_rfl
theorem isx_nn7 : isxD ["NoNumber"] exl0 (.exc "NoNumber") = some (.bl true) := by kernel_rfl
theorem isx_nn8 : isxD ["ValueError"] exl0 (.exc "NoNumber") = some (.bl true) := by kernel_rfl
theorem exl0_nn : exl0.contains ("NoNumber" : Str) = true := by decide +kernel
theorem other_ok {Φ : Ph} : runF Φ A__law_other.N.length A__law_other.body [.fr (.exc "NoNumber")] = some (.ret (.fr (.bl false))) := by
  rw [runF_eq]
  simp [A__law_other, isx_nn0, isx_nn1, isx_nn2, isx_nn3, isx_nn4, isx_nn5, isx_nn6]
theorem right_ok {Φ : Ph} (ho : Φ "_law_other" [.fr (.exc "NoNumber")] = some (.ret (.fr (.bl false)))) : runF Φ A__law_right.N.length A__law_right.body [.fr (.exc "NoNumber")] = some (.ret (.fr (.bl true))) := by
  rw [runF_eq]
  simp [A__law_right, isx_nn7, isx_nn8, ho]
def kTry (Φ : Ph) (r : Option SR) (env : List OV) (ex : List Str) (i : Nat) (s : PSs) : Option SR := match r with
  | some (.exc c) => if ex.contains c && decide (i < env.length) then (match s.ev Φ ((env.map OV.keep).set i (.fr (.exc c))) with
      | some (.nx e) => some (.nx (e.set i .hole))
      | some (.ret y) => some (.ret y)
      | _ => none) else none
  | r => r
@[simp] theorem kTry_nx {Φ : Ph} {e env : List OV} {ex : List Str} {i : Nat} {s : PSs} : kTry Φ (some (.nx e)) env ex i s = some (.nx e) := rfl
@[simp] theorem keep_fr {d : D} : OV.keep (.fr d) = .fr d := rfl
@[simp] theorem keep_hole : OV.keep .hole = .hole := rfl
theorem kTry_exc {Φ : Ph} {e env : List OV} {ex : List Str} {i : Nat} {s : PSs} {c : Str} (h1 : ex.contains c = true) (h2 : i < env.length) (h : s.ev Φ ((env.map OV.keep).set i (.fr (.exc c))) = some (.nx e)) : kTry Φ (some (.exc c)) env ex i s = some (.nx (e.set i .hole)) := by
  simp only [kTry, h1, h2, h, decide_true, Bool.and_self, if_true]
@[simp] theorem ev_try {Φ : Ph} {env : List OV} {b : PB} {ex : List Str} {i : Nat} {s : PSs} : (PS.try b ex i s).ev Φ env = kTry Φ (b.ev Φ env) env ex i s := rfl
@[simp] theorem pb_drop {Φ : Ph} {env : List OV} {v : PV} : (PB.drop v).ev Φ env = kDrop (v.ev Φ env) := rfl
@[simp] theorem pb_set {Φ : Ph} {env : List OV} {i : Nat} {v : PV} : (PB.set i v).ev Φ env = kSet i (v.ev Φ env) := rfl
theorem made_exc {Φ : Ph} {d e : D} (h : Φ "fraction" [.fr d, .fr e] = some (.exc "NoNumber")) : runF Φ A__law_made.N.length A__law_made.body [.fr d, .fr e] = some (.ret (.fr (.exc "NoNumber"))) := by
  rw [runF_eq]
  have q := kTry_exc (Φ := Φ) (env := [.fr d, .fr e, .fr .non, .hole]) (ex := exl0) (i := 3) (s := .cons (.set 2 (.ex (.vr 3))) .nil) (c := "NoNumber") (e := [.fr d, .fr e, .fr (.exc "NoNumber"), .fr (.exc "NoNumber")]) exl0_nn (by simp) (by simp)
  simp [A__law_made, h, q]
theorem divided_exc {Φ : Ph} {d e : D} (h : Φ "over" [.fr d, .fr e] = some (.exc "NoNumber")) : runF Φ A__law_divided.N.length A__law_divided.body [.fr d, .fr e] = some (.ret (.fr (.exc "NoNumber"))) := by
  rw [runF_eq]
  have q := kTry_exc (Φ := Φ) (env := [.fr d, .fr e, .fr .non, .hole]) (ex := exl0) (i := 3) (s := .cons (.set 2 (.ex (.vr 3))) .nil) (c := "NoNumber") (e := [.fr d, .fr e, .fr (.exc "NoNumber"), .fr (.exc "NoNumber")]) exl0_nn (by simp) (by simp)
  simp [A__law_divided, h, q]
theorem divided_ok {Φ : Ph} {d e z : D} (h : Φ "over" [.fr d, .fr e] = some (.ret (.fr z))) : runF Φ A__law_divided.N.length A__law_divided.body [.fr d, .fr e] = some (.ret (.fr .non)) := by
  rw [runF_eq]
  simp [A__law_divided, h]
/-- all that the law's defs do -/
structure S_k02 (Φ : Ph) : Prop where
  cell : S_cell Φ
  num : ∀ c : Int, ∃ n : Int, Φ "_law_number_by" [.fr (.int c)] = some (.ret (.fr (.int n)))
  thing : ∀ c : Int, ∃ d : D, Φ "_law_thing_by" [.fr (.int c)] = some (.ret (.fr d)) ∧ whole d = false ∧ noExc d = true
  right : Φ "_law_right" [.fr (.exc "NoNumber")] = some (.ret (.fr (.bl true)))
  made : ∀ d e : D, noExc d = true → noExc e = true → (whole d = false ∨ whole e = false ∨ e = .int 0) → Φ "_law_made" [.fr d, .fr e] = some (.ret (.fr (.exc "NoNumber")))
  frac : S_frac Φ
  low : S_low Φ "_law_lowest"
  over : S_over Φ
  divx : ∀ f : Int × Int, Φ "_law_divided" [.fr (eF f), .fr (eF (0, 1))] = some (.ret (.fr (.exc "NoNumber")))
  divn : ∀ (f : Int × Int) (g : Int), 0 < g → g.natAbs < 18446744073709551616 → 0 < f.2 → Bt 64 f.2 → Φ "_law_divided" [.fr (eF f), .fr (eF (g, 1))] = some (.ret (.fr .non))
theorem lowF_snd {a b : Int} (h : 0 < b) : 0 < (lowF a b).2 ∧ (lowF a b).2 ≤ b := by
  have h1 := gcd_pos (a := a) h
  have h2 := Int.gcd_dvd_right a b
  obtain ⟨c, hc⟩ := h2
  have h3 : (lowF a b).2 = c := by
    show b / (Int.gcd a b : Int) = c
    conv => lhs; lhs; rw [hc]
    exact Int.mul_ediv_cancel_left _ (by omega)
  have h4 : 0 < c := by
    rw [hc] at h
    exact Int.pos_of_mul_pos_left (by rw [Int.mul_comm] at h; exact h) h1 |> fun z => z
  refine ⟨by rw [h3]; exact h4, by rw [h3]; exact Int.le_of_dvd h ⟨_, by rw [Int.mul_comm] at hc; exact hc⟩⟩
theorem low_twice {a b : Int} (h : 0 < b) : lowF (lowF a b).1 ((lowF a b).2 * b) = lowF a (b * b) := by
  have h1 := gcd_pos (a := a) h
  have e1 : (Int.gcd a b : Int) * (lowF a b).1 = a := Int.mul_ediv_cancel' (Int.gcd_dvd_left a b)
  have e2 : (Int.gcd a b : Int) * (lowF a b).2 = b := Int.mul_ediv_cancel' (Int.gcd_dvd_right a b)
  have := lowF_mul (a := (lowF a b).1) (b := (lowF a b).2 * b) h1
  rw [e1, ← Int.mul_assoc, e2] at this
  exact this.symm
theorem law_k02_ok {Φ : Ph} (S : S_k02 Φ) (ns : List Int) : runF Φ A_law_k02.N.length A_law_k02.body [.fr (.scr ns)] = some (.ret (.fr (.bl true))) := by
  have c0 : Φ "_law_cell_at" [.fr (.scr ns), .fr (.int 0)] = some (.ret (.fr (.int (ns.getD 0 0)))) := S.cell ns 0
  have c1 : Φ "_law_cell_at" [.fr (.scr ns), .fr (.int 1)] = some (.ret (.fr (.int (ns.getD 1 0)))) := S.cell ns 1
  have c2 : Φ "_law_cell_at" [.fr (.scr ns), .fr (.int 2)] = some (.ret (.fr (.int (ns.getD 2 0)))) := S.cell ns 2
  have c3 : Φ "_law_cell_at" [.fr (.scr ns), .fr (.int 3)] = some (.ret (.fr (.int (ns.getD 3 0)))) := S.cell ns 3
  have c4 : Φ "_law_cell_at" [.fr (.scr ns), .fr (.int 4)] = some (.ret (.fr (.int (ns.getD 4 0)))) := S.cell ns 4
  have c5 : Φ "_law_cell_at" [.fr (.scr ns), .fr (.int 5)] = some (.ret (.fr (.int (ns.getD 5 0)))) := S.cell ns 5
  have c6 : Φ "_law_cell_at" [.fr (.scr ns), .fr (.int 6)] = some (.ret (.fr (.int (ns.getD 6 0)))) := S.cell ns 6
  generalize ns.getD 0 0 = x0 at c0
  generalize ns.getD 1 0 = x1 at c1
  generalize ns.getD 2 0 = x2 at c2
  generalize ns.getD 3 0 = x3 at c3
  generalize ns.getD 4 0 = x4 at c4
  generalize ns.getD 5 0 = x5 at c5
  generalize ns.getD 6 0 = x6 at c6
  obtain ⟨n, hn⟩ := S.num x0
  obtain ⟨t, ht, ht1, ht2⟩ := S.thing x1
  obtain ⟨u, hu, hu1, hu2⟩ := S.thing x2
  obtain ⟨g1, g2⟩ := fmod_range x4 (n := 1000003) (by decide)
  generalize hg : 1 + x4.fmod 1000003 = good
  have hg1 : 0 < good := by omega
  have hg2 : good < 1000004 := by omega
  have bg : Bt 64 good := Bt.of_lt (N := 1000004) (by omega) (by decide)
  have fr := S.frac.2 n good hg1 (bg.mono (by decide))
  have lw := S.low n good hg1 (bg.mono (by decide))
  have main : ∀ top : Int, ∀ z : Bool, True := fun _ _ => trivial
  have mg : mulOk good good = true := mulOk_small (by omega)
  have rest : ∀ top : Int, Φ "_law_lowest" [.fr (.int top), .fr (.int good)] = some (.ret (.fr (eF (lowF top good)))) ∧ Φ "_law_divided" [.fr (eF (lowF top good)), .fr (eF (good, 1))] = some (.ret (.fr .non)) ∧
      Φ "over" [.fr (eF (lowF top good)), .fr (eF (good, 1))] = some (.ret (.fr (eF (lowF top (good * good))))) ∧ Φ "_law_lowest" [.fr (.int top), .fr (.int (good * good))] = some (.ret (.fr (eF (lowF top (good * good))))) := fun top => by
    obtain ⟨p1, p2⟩ := lowF_snd (a := top) hg1
    have b2 : Bt 64 (lowF top good).2 := bg.le (by omega)
    refine ⟨S.low top good hg1 (bg.mono (by decide)), S.divn _ good hg1 (by omega) p1 b2, ?_, S.low top _ (Int.mul_pos hg1 hg1) ((bg.mul bg).mono (by decide))⟩
    rw [S.over.2 _ good hg1 (by omega) p1 b2, low_twice hg1]
  have pair : ∀ d e : D, noExc d = true → noExc e = true → (whole d = false ∨ whole e = false ∨ e = .int 0) → Φ "_law_made" [.fr d, .fr e] = some (.ret (.fr (.exc "NoNumber"))) := S.made
  obtain ⟨k1, k2⟩ := fmod_range x3 (n := 4) (by decide)
  have m0 := pair (.int n) (.int 0) rfl rfl (.inr (.inr rfl))
  have m1 := pair t (.int n) ht2 rfl (.inl ht1)
  have m2 := pair (.int n) t rfl ht2 (.inr (.inl ht1))
  have m3 := pair t u ht2 hu2 (.inl ht1)
  have e01 : D.tup [.int 0, .int 1] = eF (0, 1) := rfl
  have eg1 : D.tup [.int good, .int 1] = eF (good, 1) := rfl
  have dx := S.divx
  have rt := S.right
  rw [runF_eq]
  have hk : x3.fmod 4 = 0 ∨ x3.fmod 4 = 1 ∨ x3.fmod 4 = 2 ∨ x3.fmod 4 = 3 := by omega
  by_cases h5 : x5.fmod 2 = 1
  · obtain ⟨r1, r2, r3, r4⟩ := rest (x6.fmod 2000001 - 1000000)
    rcases hk with hk | hk | hk | hk <;>
      simp [A_law_k02, c0, c1, c2, c3, c4, c5, c6, hn, ht, hu, hk, m0, m1, m2, m3, rt, hg, fr, lw, h5, r1, r2, r3, r4, dx, e01, eg1, mg]
  · obtain ⟨r1, r2, r3, r4⟩ := rest 0
    rcases hk with hk | hk | hk | hk <;>
      simp [A_law_k02, c0, c1, c2, c3, c4, c5, c6, hn, ht, hu, hk, m0, m1, m2, m3, rt, hg, fr, lw, h5, r1, r2, r3, r4, dx, e01, eg1, mg]
end PL

set_option maxHeartbeats 0
namespace PL
open PySem PySem.Spec PyProof.Rows L2
namespace L_k02
/-! ### the text's defs and their trees -/
def top (i : Nat) : Stmt := PySem.Challenge.pw_chancehouse_k02_no_fraction.main.body.getD i (.Pass ⟨0, 0, 0, 0⟩)
def exl : List PySem.Str := ["NoNumber", "NoRow", "NoRule", "NoAnswer", "NoText", "NoName", "NoHouse", "NoWord"]
def d_is_whole : DS := ⟨"is_whole", A_is_whole, defArgs (top 11), defBody (top 11), defScope (top 11)⟩
def d_divisor : DS := ⟨"divisor", A_divisor, defArgs (top 12), defBody (top 12), defScope (top 12)⟩
def d_lowest : DS := ⟨"lowest", A_lowest, defArgs (top 13), defBody (top 13), defScope (top 13)⟩
def d_fraction : DS := ⟨"fraction", A_fraction, defArgs (top 14), defBody (top 14), defScope (top 14)⟩
def d_over : DS := ⟨"over", A_over, defArgs (top 15), defBody (top 15), defScope (top 15)⟩
def d__law_cell_at : DS := ⟨"_law_cell_at", A__law_cell_at, defArgs (top 17), defBody (top 17), defScope (top 17)⟩
def d__law_divisor : DS := ⟨"_law_divisor", A__law_divisor, defArgs (top 18), defBody (top 18), defScope (top 18)⟩
def d__law_lowest : DS := ⟨"_law_lowest", A__law_lowest, defArgs (top 19), defBody (top 19), defScope (top 19)⟩
def d__law_number_by : DS := ⟨"_law_number_by", A__law_number_by, defArgs (top 20), defBody (top 20), defScope (top 20)⟩
def d__law_thing_by : DS := ⟨"_law_thing_by", A__law_thing_by, defArgs (top 21), defBody (top 21), defScope (top 21)⟩
def d__law_other : DS := ⟨"_law_other", A__law_other, defArgs (top 22), defBody (top 22), defScope (top 22)⟩
def d__law_right : DS := ⟨"_law_right", A__law_right, defArgs (top 23), defBody (top 23), defScope (top 23)⟩
def d__law_made : DS := ⟨"_law_made", A__law_made, defArgs (top 24), defBody (top 24), defScope (top 24)⟩
def d__law_divided : DS := ⟨"_law_divided", A__law_divided, defArgs (top 25), defBody (top 25), defScope (top 25)⟩
def d_law : DS := ⟨"law", A_law_k02, defArgs (top 26), defBody (top 26), defScope (top 26)⟩
def ds0 : List DS := [d_is_whole, d_divisor, d_lowest, d_fraction, d_over, d__law_cell_at, d__law_divisor, d__law_lowest, d__law_number_by, d__law_thing_by, d__law_other, d__law_right, d__law_made, d__law_divided, d_law]
def ds : List DS := ds0
def bn0 : List PySem.Str := ["ValueError", "abs", "bool", "int", "isinstance", "len"]
def bn : List PySem.Str := bn0
def nms0 : List PySem.Str := ["ChanceError", "NoNumber", "NoRow", "NoRule", "NoAnswer", "NoText", "NoName", "NoHouse", "NoWord", "is_whole", "divisor", "lowest", "fraction", "over", "_law_cell_at", "_law_divisor", "_law_lowest", "_law_number_by", "_law_thing_by", "_law_other", "_law_right", "_law_made", "_law_divided"]
def nms : List PySem.Str := nms0
def l : LawD := ⟨ds, bn, exl⟩
theorem ok_is_whole : d_is_whole.okB l.G l.bn l.ex = true := by kernel_rfl
theorem bi_is_whole : BindsB d_is_whole := fun _ _ _ _ _ _ us hl => match us, hl with | [_], _ => rfl
theorem g_is_whole (k : Nat) : Phi l.G (k + 1) "is_whole" = runF (Phi l.G k) A_is_whole.N.length A_is_whole.body := Phi_at (by kernel_rfl)
theorem ok_divisor : d_divisor.okB l.G l.bn l.ex = true := by kernel_rfl
theorem bi_divisor : BindsB d_divisor := fun _ _ _ _ _ _ us hl => match us, hl with | [_, _], _ => rfl
theorem g_divisor (k : Nat) : Phi l.G (k + 1) "divisor" = runF (Phi l.G k) A_divisor.N.length A_divisor.body := Phi_at (by kernel_rfl)
theorem ok_lowest : d_lowest.okB l.G l.bn l.ex = true := by kernel_rfl
theorem bi_lowest : BindsB d_lowest := fun _ _ _ _ _ _ us hl => match us, hl with | [_, _], _ => rfl
theorem g_lowest (k : Nat) : Phi l.G (k + 1) "lowest" = runF (Phi l.G k) A_lowest.N.length A_lowest.body := Phi_at (by kernel_rfl)
theorem ok_fraction : d_fraction.okB l.G l.bn l.ex = true := by kernel_rfl
theorem bi_fraction : BindsB d_fraction := fun _ _ _ _ _ _ us hl => match us, hl with | [_, _], _ => rfl
theorem g_fraction (k : Nat) : Phi l.G (k + 1) "fraction" = runF (Phi l.G k) A_fraction.N.length A_fraction.body := Phi_at (by kernel_rfl)
theorem ok_over : d_over.okB l.G l.bn l.ex = true := by kernel_rfl
theorem bi_over : BindsB d_over := fun _ _ _ _ _ _ us hl => match us, hl with | [_, _], _ => rfl
theorem g_over (k : Nat) : Phi l.G (k + 1) "over" = runF (Phi l.G k) A_over.N.length A_over.body := Phi_at (by kernel_rfl)
theorem ok__law_cell_at : d__law_cell_at.okB l.G l.bn l.ex = true := by kernel_rfl
theorem bi__law_cell_at : BindsB d__law_cell_at := fun _ _ _ _ _ _ us hl => match us, hl with | [_, _], _ => rfl
theorem g__law_cell_at (k : Nat) : Phi l.G (k + 1) "_law_cell_at" = runF (Phi l.G k) A__law_cell_at.N.length A__law_cell_at.body := Phi_at (by kernel_rfl)
theorem ok__law_divisor : d__law_divisor.okB l.G l.bn l.ex = true := by kernel_rfl
theorem bi__law_divisor : BindsB d__law_divisor := fun _ _ _ _ _ _ us hl => match us, hl with | [_, _], _ => rfl
theorem g__law_divisor (k : Nat) : Phi l.G (k + 1) "_law_divisor" = runF (Phi l.G k) A__law_divisor.N.length A__law_divisor.body := Phi_at (by kernel_rfl)
theorem ok__law_lowest : d__law_lowest.okB l.G l.bn l.ex = true := by kernel_rfl
theorem bi__law_lowest : BindsB d__law_lowest := fun _ _ _ _ _ _ us hl => match us, hl with | [_, _], _ => rfl
theorem g__law_lowest (k : Nat) : Phi l.G (k + 1) "_law_lowest" = runF (Phi l.G k) A__law_lowest.N.length A__law_lowest.body := Phi_at (by kernel_rfl)
theorem ok__law_number_by : d__law_number_by.okB l.G l.bn l.ex = true := by kernel_rfl
theorem bi__law_number_by : BindsB d__law_number_by := fun _ _ _ _ _ _ us hl => match us, hl with | [_], _ => rfl
theorem g__law_number_by (k : Nat) : Phi l.G (k + 1) "_law_number_by" = runF (Phi l.G k) A__law_number_by.N.length A__law_number_by.body := Phi_at (by kernel_rfl)
theorem ok__law_thing_by : d__law_thing_by.okB l.G l.bn l.ex = true := by kernel_rfl
theorem bi__law_thing_by : BindsB d__law_thing_by := fun _ _ _ _ _ _ us hl => match us, hl with | [_], _ => rfl
theorem g__law_thing_by (k : Nat) : Phi l.G (k + 1) "_law_thing_by" = runF (Phi l.G k) A__law_thing_by.N.length A__law_thing_by.body := Phi_at (by kernel_rfl)
theorem ok__law_other : d__law_other.okB l.G l.bn l.ex = true := by kernel_rfl
theorem bi__law_other : BindsB d__law_other := fun _ _ _ _ _ _ us hl => match us, hl with | [_], _ => rfl
theorem g__law_other (k : Nat) : Phi l.G (k + 1) "_law_other" = runF (Phi l.G k) A__law_other.N.length A__law_other.body := Phi_at (by kernel_rfl)
theorem ok__law_right : d__law_right.okB l.G l.bn l.ex = true := by kernel_rfl
theorem bi__law_right : BindsB d__law_right := fun _ _ _ _ _ _ us hl => match us, hl with | [_], _ => rfl
theorem g__law_right (k : Nat) : Phi l.G (k + 1) "_law_right" = runF (Phi l.G k) A__law_right.N.length A__law_right.body := Phi_at (by kernel_rfl)
theorem ok__law_made : d__law_made.okB l.G l.bn l.ex = true := by kernel_rfl
theorem bi__law_made : BindsB d__law_made := fun _ _ _ _ _ _ us hl => match us, hl with | [_, _], _ => rfl
theorem g__law_made (k : Nat) : Phi l.G (k + 1) "_law_made" = runF (Phi l.G k) A__law_made.N.length A__law_made.body := Phi_at (by kernel_rfl)
theorem ok__law_divided : d__law_divided.okB l.G l.bn l.ex = true := by kernel_rfl
theorem bi__law_divided : BindsB d__law_divided := fun _ _ _ _ _ _ us hl => match us, hl with | [_, _], _ => rfl
theorem g__law_divided (k : Nat) : Phi l.G (k + 1) "_law_divided" = runF (Phi l.G k) A__law_divided.N.length A__law_divided.body := Phi_at (by kernel_rfl)
theorem ok_law : d_law.okB l.G l.bn l.ex = true := by kernel_rfl
theorem bi_law : BindsB d_law := fun _ _ _ _ _ _ us hl => match us, hl with | [_], _ => rfl
theorem g_law (k : Nat) : Phi l.G (k + 1) "law" = runF (Phi l.G k) A_law_k02.N.length A_law_k02.body := Phi_at (by kernel_rfl)
theorem l_ok : l.Ok := ⟨List.forall_mem_cons.mpr ⟨ok_is_whole, List.forall_mem_cons.mpr ⟨ok_divisor, List.forall_mem_cons.mpr ⟨ok_lowest, List.forall_mem_cons.mpr ⟨ok_fraction, List.forall_mem_cons.mpr ⟨ok_over, List.forall_mem_cons.mpr ⟨ok__law_cell_at, List.forall_mem_cons.mpr ⟨ok__law_divisor, List.forall_mem_cons.mpr ⟨ok__law_lowest, List.forall_mem_cons.mpr ⟨ok__law_number_by, List.forall_mem_cons.mpr ⟨ok__law_thing_by, List.forall_mem_cons.mpr ⟨ok__law_other, List.forall_mem_cons.mpr ⟨ok__law_right, List.forall_mem_cons.mpr ⟨ok__law_made, List.forall_mem_cons.mpr ⟨ok__law_divided, List.forall_mem_cons.mpr ⟨ok_law, fun _ h => nomatch h⟩⟩⟩⟩⟩⟩⟩⟩⟩⟩⟩⟩⟩⟩⟩,
  List.forall_mem_cons.mpr ⟨bi_is_whole, List.forall_mem_cons.mpr ⟨bi_divisor, List.forall_mem_cons.mpr ⟨bi_lowest, List.forall_mem_cons.mpr ⟨bi_fraction, List.forall_mem_cons.mpr ⟨bi_over, List.forall_mem_cons.mpr ⟨bi__law_cell_at, List.forall_mem_cons.mpr ⟨bi__law_divisor, List.forall_mem_cons.mpr ⟨bi__law_lowest, List.forall_mem_cons.mpr ⟨bi__law_number_by, List.forall_mem_cons.mpr ⟨bi__law_thing_by, List.forall_mem_cons.mpr ⟨bi__law_other, List.forall_mem_cons.mpr ⟨bi__law_right, List.forall_mem_cons.mpr ⟨bi__law_made, List.forall_mem_cons.mpr ⟨bi__law_divided, List.forall_mem_cons.mpr ⟨bi_law, fun _ h => nomatch h⟩⟩⟩⟩⟩⟩⟩⟩⟩⟩⟩⟩⟩⟩⟩⟩
theorem l_db : (l.ex.all fun x => !(x == ("__debug__" : Str))) = true := by decide +kernel
/-! ### the head -/
abbrev R : PySem.W.OpenRow := PySem.W.OpenLaw.row PySem.Challenge.rw_chancehouse_k02_no_fraction
abbrev hk : PySem.W.Hook := He.hookX 4 l.fa l.fn [] [] (exB l.ex)
def ob (s : PySem.W.SharedT) : He.AlX := He.obsX 4 l.fa l.fn [] [] (exB l.ex) (HandSHeadRun.getT s)
theorem ob_eq (s : PySem.W.SharedT) : ob s = hk.obs s.abs := He.obsX_eq (HandSHeadRun.getT_eq s)
theorem run (w : World) : HandSHeadRun.RunEq R (PySem.W.view R.prog [26]) hk ob 3000 nms w := by
  intro os
  kernel_rfl

theorem p_div (k : Nat) : S_div (Phi l.G (k + 1)) "divisor" := fun a b => by rw [g_divisor]; exact divisor_ok a b
theorem p_ldiv (k : Nat) : S_div (Phi l.G (k + 1)) "_law_divisor" := fun a b => by rw [g__law_divisor]; exact divisor1_ok a b
theorem p_low (k : Nat) : S_low (Phi l.G (k + 2)) "lowest" := fun a b h1 h2 => by rw [g_lowest]; exact lowest_ok (p_div k) a b h1 h2
theorem p_llow (k : Nat) : S_low (Phi l.G (k + 2)) "_law_lowest" := fun a b h1 h2 => by rw [g__law_lowest]; exact lowest1_ok (p_ldiv k) a b h1 h2
theorem p_whole (k : Nat) : S_whole (Phi l.G (k + 1)) := fun d h => by rw [g_is_whole]; exact is_whole_ok d h
theorem p_frac (k : Nat) : S_frac (Phi l.G (k + 3)) := by
  unfold S_frac
  rw [g_fraction]
  exact fraction_ok (p_whole (k + 1)) (p_low k)
theorem p_over (k : Nat) : S_over (Phi l.G (k + 3)) := by
  unfold S_over
  rw [g_over]
  exact over_ok (p_low k)
theorem p_all (k : Nat) : S_k02 (Phi l.G (k + 4)) where
  cell := fun ns i => by rw [g__law_cell_at]; exact cell_ok ns i
  num := fun c => by rw [g__law_number_by]; exact number_ok c
  thing := fun c => by rw [g__law_thing_by]; exact thing_ok c
  right := by
    rw [g__law_right]
    exact right_ok (by rw [g__law_other]; exact other_ok)
  made := fun d e h1 h2 h => by rw [g__law_made]; exact made_exc ((p_frac k).1 d e h1 h2 h)
  frac := p_frac (k + 1)
  low := p_llow (k + 2)
  over := p_over (k + 1)
  divx := fun f => by rw [g__law_divided]; exact divided_exc ((p_over k).1 f)
  divn := fun f g h1 h2 h3 h4 => by rw [g__law_divided]; exact divided_ok ((p_over k).2 f g h1 h2 h3 h4)
theorem law_true (ns : List Int) (_ : ns.length ≤ 63) : Phi l.G 24 "law" [.fr (.scr ns)] = some (.ret (.fr (.bl true))) := by
  rw [g_law]
  exact law_k02_ok (p_all 19) ns

/-! ### the join -/
theorem facts {P : Program} {w : World} {K : PySem.W.Frag} {h : Heap} {mg : Str → Option Value} {f : Addr} (X : K.In h) (G : h.Ns mainGlobals mg) (hfa : mg ("law" : Str) = some (.ref f)) (c : He.SaysX l.fa l.fn [] [] (exB l.ex) w h K) :
    ∃ (fd : FuncData) (sp : Sp), (∀ (s : Shared) (v : Value), BindsTo s fd ⟨[v], []⟩ [("script", v)]) ∧ (∀ (H : Hp) (a : Addr) (ns : List Int), ns.length ≤ 63 → SqL K H a (ns.map V.int) → sp [.ref a] H (fun v _ => v = .bl true) fun _ _ _ => False) ∧
      ∀ base : Heap, FnOk P w K mg base CX0 24 f fd ["script"] sp := by
  have lf : LF K mg l := LF.of X G c
  have hm : d_law ∈ l.ds := by
    show d_law ∈ ds0
    simp [ds0]
  obtain ⟨m, _⟩ := lf.fn d_law hm
  have e := hfa.symm.trans m
  cases e
  obtain ⟨fd, F, _⟩ := law_ok (P := P) (w := w) (base := h) l_ok lf l_db hm (by kernel_rfl) 23
  have b := F.bindsA (ps := ["script"]) bi_law
  refine ⟨fd, fun vs H Q E => spOf K mg 1 (Phi l.G 24 "law") vs H Q E0, fun s v => b s [v] rfl, fun H a ns hl hS => law_end hS (law_true ns hl), fun base => ?_⟩
  obtain ⟨fd2, F2, ok⟩ := law_ok (P := P) (w := w) (base := base) l_ok lf l_db hm (by kernel_rfl) 23
  have : fd2 = fd := by
    obtain ⟨_, _, _, _, _, _, _, _, _, _, e1, k1, _⟩ := F.ex
    obtain ⟨_, _, _, _, _, _, _, _, _, _, e2, k2, _⟩ := F2.ex
    rw [k1] at k2
    cases k2
    rfl
  subst this
  exact ok
end L_k02
end PL
open PySem PySem.W PySem.Calls PyProof.Rows
theorem PySem.Challenge.cw_chancehouse_k02_no_fraction_holds : PySem.Challenge.rw_chancehouse_k02_no_fraction.Holds := by
  w_on; o_law
  refine HandSHeadRun.head_any (r := OpenLaw.row PySem.Challenge.rw_chancehouse_k02_no_fraction) (q := view (OpenLaw.row PySem.Challenge.rw_chancehouse_k02_no_fraction).prog [26]) (H := PL.L_k02.hk) (ob := PL.L_k02.ob) (M := 3000) (loose := PL.L_k02.nms) (d := HandSHeadRun.topDef (OpenLaw.row PySem.Challenge.rw_chancehouse_k02_no_fraction).prog 26) (kwd := []) PL.L_k02.ob_eq
    (by kernel_rfl) (fun s => by kernel_rfl) PL.L_k02.run (by kernel_rfl) (by kernel_rfl) (by kernel_rfl) (by rfl) (by first | assumption | decide +kernel) (by decide +kernel) ⟨rfl, rfl, rfl, rfl, rfl, by decide +kernel⟩ ?hw ?hc
  case hw => w_witness2
  case hc =>
    refine L2.walk_ofE (l := PySem.Challenge.rw_chancehouse_k02_no_fraction) (n := 63) (k := 24) (x := "script") (CX := L2.CX0) rfl (by decide) (by kernel_rfl) ⟨rfl, by decide, by decide⟩ ?F (fun _ _ _ _ z => z)
    intro w mg fa h Y G hmg0
    obtain ⟨K, KX, c⟩ := Y
    have hmg : mg ("law" : PySem.Str) = some (.ref fa) := by
      have e : (HandSHeadRun.topDef (OpenLaw.row PySem.Challenge.rw_chancehouse_k02_no_fraction).prog 26).name = ("law" : PySem.Str) := by kernel_rfl
      rw [← e]
      exact hmg0
    obtain ⟨fd, sp, hb, hs, hF⟩ := PL.L_k02.facts (P := (PySem.Challenge.rw_chancehouse_k02_no_fraction).prog) (w := w) KX G hmg c
    exact ⟨K, fd, sp, KX, hb, fun H a ns hl _ hS => hs H a ns hl hS, fun base _ _ => hF base⟩
