import PyProof.Rows.All
import PyProof.StrLawsChain
import PyProof.StrLawsTight
import PyProof.Rows.StrItems
import KE.DatumOrd
import KE.SortData
import Wide.All
import OpenK.AllK
import Wide.FinOn
import HandS.ForMost
import HandS.IsInst
import HandS.Style
import HandS.TupAny
import HandS.TupLe
import HandS.Evl
import HandS.Steps
import HandS.Deep
import HandS.Exc
import HandS.ExcOwn
import HandS.WordsExc
import HandS.ExcInit
import HandS.ExcField
import HandS.ClsMeth
import HandS.CallSlots
import HandS.ExcIs
import HandS.StrMore
import KE.DataMinMax
import HandS.Zip
import PyProof.Rows.RowBridgeK
import PySem.Challenge.RW_readwright_k12_texts_cut
set_option Elab.async false
set_option linter.all false
set_option maxRecDepth 100000
/-! A layer over HandS: what a reading yields told by plain data, the heap out of sight. -/
namespace DL
open PySem PySem.Spec PyProof.Rows L2
open Evl (Ex ex_l ex_t fresh_back)

/-! ### a caught exception that is kept: at a, of the class cls, its fields' dict at d -/
def exv (a : Addr) (cls : Value) (d : Option Addr) : HO := .ext fun h => ∃ oe vs, h.get? a = some oe ∧ Zc cls d oe ∧ oe.data = .fields vs
/-! ### data -/
inductive Dat where
  | non | bl (b : Bool) | int (i : Int) | txt (cs : List Nat) | lst (xs : List Dat) | tup (xs : List Dat)
  | ins (C : Addr) (fs : List (Str × Dat)) | dct (kvs : List (Key × Dat)) | scr (ns : List Int) | ty (n : String) | cls (C : Addr) | exc (C : Addr) (fs : List (Str × Dat))

mutual
inductive DR (K : PySem.W.Frag) (H : Hp) : V → Dat → Prop
  | non : DR K H .non .non
  | ty (n : String) : DR K H (.ty n) (.ty n)
  | cls (C : Addr) : DR K H (.ref C) (.cls C)
  | exc0 {a C : Addr} : H a = some (exv a (.ref C) none) → DR K H (.ref a) (.exc C [])
  | exc1 {a C dd : Addr} {fs : List (Str × V)} {gs : List (Str × Dat)} : H a = some (exv a (.ref C) (some dd)) → H dd = some (.xd fs) → DRf K H fs gs → DR K H (.ref a) (.exc C gs)
  | bl (b : Bool) : DR K H (.bl b) (.bl b)
  | int (i : Int) : DR K H (.int i) (.int i)
  | txt (cs : List Nat) : DR K H (.str ⟨cs.toArray⟩) (.txt cs)
  | lst {a : Addr} {xs : List V} {ds : List Dat} : H a = some (.lst xs) → DRs K H xs ds → DR K H (.ref a) (.lst ds)
  | scr {a : Addr} {ns : List Int} : SqL K H a (ns.map V.int) → DR K H (.ref a) (.scr ns)
  | tup {a : Addr} {xs : List V} {ds : List Dat} : SqT K H a xs → DRs K H xs ds → DR K H (.ref a) (.tup ds)
  | ins {a C dx : Addr} {fs : List (Str × V)} {gs : List (Str × Dat)} : H a = some (.ins C dx fs) → DRf K H fs gs → DR K H (.ref a) (.ins C gs)
  | dct {a : Addr} {kvs : List (Key × V)} {es : List (Key × Dat)} : H a = some (.dK kvs) → DRk K H kvs es → DR K H (.ref a) (.dct es)
inductive DRs (K : PySem.W.Frag) (H : Hp) : List V → List Dat → Prop
  | nil : DRs K H [] []
  | cons {v : V} {vs : List V} {d : Dat} {ds : List Dat} : DR K H v d → DRs K H vs ds → DRs K H (v :: vs) (d :: ds)
inductive DRf (K : PySem.W.Frag) (H : Hp) : List (Str × V) → List (Str × Dat) → Prop
  | nil : DRf K H [] []
  | cons {x : Str} {v : V} {vs : List (Str × V)} {d : Dat} {ds : List (Str × Dat)} : DR K H v d → DRf K H vs ds → DRf K H ((x, v) :: vs) ((x, d) :: ds)
inductive DRk (K : PySem.W.Frag) (H : Hp) : List (Key × V) → List (Key × Dat) → Prop
  | nil : DRk K H [] []
  | cons {x : Key} {v : V} {vs : List (Key × V)} {d : Dat} {ds : List (Key × Dat)} : DR K H v d → DRk K H vs ds → DRk K H ((x, v) :: vs) ((x, d) :: ds)
end

section
variable {K : PySem.W.Frag} {H H' : Hp}
mutual
theorem DR.mono (e : Ex H H') : ∀ {v : V} {d : Dat}, DR K H v d → DR K H' v d
  | _, _, .non => .non
  | _, _, .ty n => .ty n
  | _, _, .cls n => .cls n
  | _, _, .exc0 h => .exc0 (e _ _ h)
  | _, _, .exc1 h h2 r => .exc1 (e _ _ h) (e _ _ h2) (DRf.mono e r)
  | _, _, .bl b => .bl b
  | _, _, .int i => .int i
  | _, _, .txt cs => .txt cs
  | _, _, .lst h r => .lst (e _ _ h) (DRs.mono e r)
  | _, _, .scr h => .scr (ex_l e h)
  | _, _, .tup h r => .tup (ex_t e h) (DRs.mono e r)
  | _, _, .ins h r => .ins (e _ _ h) (DRf.mono e r)
  | _, _, .dct h r => .dct (e _ _ h) (DRk.mono e r)
theorem DRs.mono (e : Ex H H') : ∀ {v : List V} {d : List Dat}, DRs K H v d → DRs K H' v d
  | _, _, .nil => .nil
  | _, _, .cons h r => .cons (DR.mono e h) (DRs.mono e r)
theorem DRf.mono (e : Ex H H') : ∀ {v : List (Str × V)} {d : List (Str × Dat)}, DRf K H v d → DRf K H' v d
  | _, _, .nil => .nil
  | _, _, .cons h r => .cons (DR.mono e h) (DRf.mono e r)
theorem DRk.mono (e : Ex H H') : ∀ {v : List (Key × V)} {d : List (Key × Dat)}, DRk K H v d → DRk K H' v d
  | _, _, .nil => .nil
  | _, _, .cons h r => .cons (DR.mono e h) (DRk.mono e r)
end
theorem DRs.length : ∀ {vs : List V} {ds : List Dat}, DRs K H vs ds → vs.length = ds.length
  | _, _, .nil => rfl
  | _, _, .cons _ r => by rw [List.length_cons, List.length_cons, DRs.length r]
theorem DRs.get : ∀ {vs : List V} {ds : List Dat} {i : Nat} {v : V}, DRs K H vs ds → vs[i]? = some v → ∃ d, ds[i]? = some d ∧ DR K H v d
  | _, _, _, _, .nil, e => by simp at e
  | _, _, 0, _, .cons h _, e => by simp at e; subst e; exact ⟨_, rfl, h⟩
  | _, _, i + 1, v, .cons _ r, e => by
    obtain ⟨d, h1, h2⟩ := DRs.get (i := i) (v := v) r (by simpa using e)
    exact ⟨d, by simpa using h1, h2⟩
theorem DRs.at : ∀ {vs : List V} {ds : List Dat} {i : Nat} {d : Dat}, DRs K H vs ds → ds[i]? = some d → ∃ v, vs[i]? = some v ∧ DR K H v d
  | _, _, _, _, .nil, e => by simp at e
  | _, _, 0, _, .cons h _, e => by simp at e; subst e; exact ⟨_, rfl, h⟩
  | _, _, i + 1, v, .cons _ r, e => by
    obtain ⟨d, h1, h2⟩ := DRs.at (i := i) (d := v) r (by simpa using e)
    exact ⟨d, by simpa using h1, h2⟩
theorem DRs.append : ∀ {vs ws : List V} {ds es : List Dat}, DRs K H vs ds → DRs K H ws es → DRs K H (vs ++ ws) (ds ++ es)
  | _, _, _, _, .nil, s => s
  | _, _, _, _, .cons h r, s => .cons h (DRs.append r s)
theorem DRs.take : ∀ {vs : List V} {ds : List Dat} (n : Nat), DRs K H vs ds → DRs K H (vs.take n) (ds.take n)
  | _, _, 0, _ => .nil
  | _, _, _ + 1, .nil => .nil
  | _, _, n + 1, .cons h r => .cons h (DRs.take n r)
theorem DRs.drop : ∀ {vs : List V} {ds : List Dat} (n : Nat), DRs K H vs ds → DRs K H (vs.drop n) (ds.drop n)
  | _, _, 0, r => r
  | _, _, _ + 1, .nil => .nil
  | _, _, n + 1, .cons _ r => DRs.drop n r
theorem DRf.lookup : ∀ {fs : List (Str × V)} {gs : List (Str × Dat)} {f : Str} {d : Dat}, DRf K H fs gs → gs.lookup f = some d → ∃ v, fs.lookup f = some v ∧ DR K H v d
  | _, _, _, _, .nil, e => by simp at e
  | _, _, f, d, @DRf.cons _ _ x v vs d' ds h r, e => by
    rw [List.lookup_cons] at e ⊢
    cases q : (f == x) with
    | true => rw [q] at e; cases e; exact ⟨v, rfl, h⟩
    | false => rw [q] at e; exact DRf.lookup (f := f) (d := d) r e
theorem DRf.none : ∀ {fs : List (Str × V)} {gs : List (Str × Dat)} {f : Str}, DRf K H fs gs → gs.lookup f = none → fs.lookup f = none
  | _, _, _, .nil, e => rfl
  | _, _, f, @DRf.cons _ _ x v vs d' ds h r, e => by
    rw [List.lookup_cons] at e ⊢
    cases q : (f == x) with
    | true => rw [q] at e; cases e
    | false => rw [q] at e; exact DRf.none (f := f) r e
/-- lists of numbers, of truths, of texts -/
theorem DRs.ints : ∀ {vs : List V} {ns : List Int}, DRs K H vs (ns.map .int) → vs = ns.map V.int
  | _, [], .nil => rfl
  | _, n :: ns, .cons (.int _) r => by rw [DRs.ints r]; rfl
theorem DRs.bls : ∀ {vs : List V} {ns : List Bool}, DRs K H vs (ns.map .bl) → vs = ns.map V.bl
  | _, [], .nil => rfl
  | _, n :: ns, .cons (.bl _) r => by rw [DRs.bls r]; rfl
def strL (cs : List Nat) : Str := ⟨cs.toArray⟩
theorem DRs.txts : ∀ {vs : List V} {ns : List (List Nat)}, DRs K H vs (ns.map .txt) → vs = (ns.map strL).map V.str
  | _, [], .nil => rfl
  | _, n :: ns, .cons (.txt _) r => by rw [DRs.txts r]; rfl
theorem DRs.ofInts : ∀ (ns : List Int), DRs K H (ns.map V.int) (ns.map .int)
  | [] => .nil
  | n :: ns => .cons (.int n) (DRs.ofInts ns)
theorem DRs.ofTxts : ∀ (ns : List (List Nat)), DRs K H ((ns.map strL).map V.str) (ns.map .txt)
  | [] => .nil
  | n :: ns => .cons (.txt n) (DRs.ofTxts ns)
theorem DR.ofStr (x : Str) : DR K H (.str x) (.txt x.cps.toList) := by
  have h : DR K H (.str ⟨x.cps.toList.toArray⟩) (.txt x.cps.toList) := .txt _
  rw [Array.toArray_toList] at h
  exact h
end
theorem strL_len (cs : List Nat) : (strL cs).length = cs.length := by simp [strL, Str.length]
theorem strL_cps (cs : List Nat) : (strL cs).cps.toList = cs := by simp [strL]
theorem strL_app (a b : List Nat) : strL a ++ strL b = strL (a ++ b) := by
  show (⟨a.toArray ++ b.toArray⟩ : Str) = ⟨(a ++ b).toArray⟩
  rw [List.append_toArray]
theorem strL_inj {a b : List Nat} (h : strL a = strL b) : a = b := by
  have := congrArg (fun s => s.cps.toList) h
  simpa [strL] using this

/-! ### the frozen part G of a heap H grows; what H has besides stays -/
structure Grow (G H G' H' : Hp) : Prop where
  g : Ex G G'
  s : Ex G' H'
  h : Ex H H'
  m : ∀ a, G a = none → H a ≠ none → G' a = none
theorem Grow.refl {G H : Hp} (e : Ex G H) : Grow G H G H := ⟨Evl.Ex.refl _, e, Evl.Ex.refl _, fun _ h _ => h⟩
theorem ex_some_ne {H H' : Hp} (e : Ex H H') {a : Addr} (h : H a ≠ none) : H' a ≠ none := by
  cases q : H a with
  | none => exact absurd q h
  | some o => rw [e a o q]; simp
theorem Grow.trans {G H G1 H1 G2 H2 : Hp} (a : Grow G H G1 H1) (b : Grow G1 H1 G2 H2) : Grow G H G2 H2 :=
  ⟨a.g.trans b.g, b.s, a.h.trans b.h, fun c h1 h2 => b.m c (a.m c h1 h2) (ex_some_ne a.h h2)⟩
theorem ex_upd2 {G H : Hp} {p : Addr} {o : HO} (e : Ex G H) : Ex (upd G p o) (upd H p o) := fun a u h => by
  by_cases q : a = p
  · subst q; rw [upd_same] at h ⊢; exact h
  · rw [upd_ne q] at h ⊢; exact e a u h
theorem Grow.new {G H : Hp} {p : Addr} {o : HO} (e : Ex G H) (hp : H p = none) : Grow G H (upd G p o) (upd H p o) := by
  have gp : G p = none := fresh_back e hp
  refine ⟨Evl.Ex.new gp, ex_upd2 e, Evl.Ex.new hp, fun a h1 h2 => ?_⟩
  have q : a ≠ p := fun z => by subst z; exact h2 hp
  rw [upd_ne q]; exact h1
/-- an object that is not frozen may be new -/
theorem Grow.newM {G H : Hp} {p : Addr} {o : HO} (e : Ex G H) (hp : H p = none) : Grow G H G (upd H p o) := by
  refine ⟨Evl.Ex.refl _, fun a u h => ?_, Evl.Ex.new hp, fun a h1 h2 => h1⟩
  exact Evl.Ex.new hp a u (e a u h)

/-! ### slots -/
inductive Sl where
  | no | dat (d : Dat) | own (ds : List Dat)
structure Sat (K : PySem.W.Frag) (G0 B0 : Hp) (ρ : List Sl) (σ : L2.St) (G H : Hp) : Prop where
  gr : Grow G0 B0 G H
  len : σ.length = ρ.length
  dat : ∀ (i : Nat) d, ρ[i]? = some (.dat d) → ∃ v, σ[i]? = some (some v) ∧ DR K G v d
  own : ∀ (i : Nat) ds, ρ[i]? = some (.own ds) → ∃ p vs, σ[i]? = some (some (.ref p)) ∧ G p = none ∧ B0 p = none ∧ H p = some (.lst vs) ∧ DRs K G vs ds
  sep : ∀ (i j : Nat) a b p, ρ[i]? = some (.own a) → ρ[j]? = some (.own b) → σ[i]? = some (some (.ref p)) → σ[j]? = some (some (.ref p)) → i = j

section
variable {K : PySem.W.Frag} {G0 B0 G H G' H' : Hp} {ρ : List Sl} {σ : L2.St}
theorem Sat.grow (S : Sat K G0 B0 ρ σ G H) (g : Grow G H G' H') : Sat K G0 B0 ρ σ G' H' := by
  refine ⟨S.gr.trans g, S.len, fun i d h => ?_, fun i ds h => ?_, S.sep⟩
  · obtain ⟨v, h1, h2⟩ := S.dat i d h
    exact ⟨v, h1, h2.mono g.g⟩
  · obtain ⟨p, vs, h1, h2, h3, h4, h5⟩ := S.own i ds h
    exact ⟨p, vs, h1, g.m p h2 (by rw [h4]; simp), h3, g.h _ _ h4, h5.mono g.g⟩
/-- a slot is given a datum -/
theorem Sat.set (S : Sat K G0 B0 ρ σ G H) {i : Nat} {v : V} {d : Dat} (r : DR K G v d) : Sat K G0 B0 (ρ.set i (.dat d)) (σ.set i (some v)) G H := by
  refine ⟨S.gr, by rw [List.length_set, List.length_set]; exact S.len, fun j e h => ?_, fun j ds h => ?_, fun j k a b p h1 h2 h3 h4 => ?_⟩
  · by_cases q : i = j
    · subst q
      rw [List.getElem?_set_self' ] at h
      rw [List.getElem?_set_self']
      cases z : ρ[i]? with
      | none => rw [z] at h; simp at h
      | some w =>
        rw [z] at h; simp at h; subst h
        have hl : i < σ.length := by rw [S.len]; exact (List.getElem?_eq_some_iff.mp z).1
        rw [List.getElem?_eq_getElem hl]
        exact ⟨v, rfl, r⟩
    · rw [List.getElem?_set_ne q] at h ⊢
      exact S.dat j e h
  · by_cases q : i = j
    · subst q
      rw [List.getElem?_set_self'] at h
      cases z : ρ[i]? with
      | none => rw [z] at h; simp at h
      | some w => rw [z] at h; simp at h
    · rw [List.getElem?_set_ne q] at h ⊢
      exact S.own j ds h
  · have qj : i ≠ j := fun q => by
      subst q
      rw [List.getElem?_set_self'] at h1
      cases z : ρ[i]? with
      | none => rw [z] at h1; simp at h1
      | some w => rw [z] at h1; simp at h1
    have qk : i ≠ k := fun q => by
      subst q
      rw [List.getElem?_set_self'] at h2
      cases z : ρ[i]? with
      | none => rw [z] at h2; simp at h2
      | some w => rw [z] at h2; simp at h2
    rw [List.getElem?_set_ne qj] at h1 h3
    rw [List.getElem?_set_ne qk] at h2 h4
    exact S.sep j k a b p h1 h2 h3 h4
/-- a slot is forgotten -/
theorem Sat.forget (S : Sat K G0 B0 ρ σ G H) {i : Nat} {o : Option V} : Sat K G0 B0 (ρ.set i .no) (σ.set i o) G H := by
  have key : ∀ (j : Nat) (s : Sl), s ≠ .no → (ρ.set i .no)[j]? = some s → i ≠ j ∧ ρ[j]? = some s := fun j s hs h => by
    by_cases q : i = j
    · subst q
      rw [List.getElem?_set_self'] at h
      cases z : ρ[i]? with
      | none => rw [z] at h; simp at h
      | some w => rw [z] at h; simp at h; exact absurd h.symm hs
    · rw [List.getElem?_set_ne q] at h
      exact ⟨q, h⟩
  refine ⟨S.gr, by rw [List.length_set, List.length_set]; exact S.len, fun j e h => ?_, fun j ds h => ?_, fun j k a b p h1 h2 h3 h4 => ?_⟩
  · obtain ⟨q, h⟩ := key j _ (by simp) h
    rw [List.getElem?_set_ne q]; exact S.dat j e h
  · obtain ⟨q, h⟩ := key j _ (by simp) h
    rw [List.getElem?_set_ne q]; exact S.own j ds h
  · obtain ⟨q1, h1⟩ := key j _ (by simp) h1
    obtain ⟨q2, h2⟩ := key k _ (by simp) h2
    rw [List.getElem?_set_ne q1] at h3
    rw [List.getElem?_set_ne q2] at h4
    exact S.sep j k a b p h1 h2 h3 h4
/-- a slot is given a new list of one's own -/
theorem Sat.setOwn (S : Sat K G0 B0 ρ σ G H) {i : Nat} {p : Addr} {vs : List V} {ds : List Dat} (hG : G p = none) (hB : B0 p = none) (hH : H p = some (.lst vs)) (r : DRs K G vs ds)
    (hn : ∀ (j : Nat) a, i ≠ j → ρ[j]? = some (.own a) → σ[j]? ≠ some (some (.ref p))) : Sat K G0 B0 (ρ.set i (.own ds)) (σ.set i (some (.ref p))) G H := by
  have key : ∀ (j : Nat) (s : Sl), (ρ.set i (.own ds))[j]? = some s → (i = j ∧ s = .own ds ∧ i < ρ.length) ∨ (i ≠ j ∧ ρ[j]? = some s) := fun j s h => by
    by_cases q : i = j
    · subst q
      rw [List.getElem?_set_self'] at h
      cases z : ρ[i]? with
      | none => rw [z] at h; simp at h
      | some w => rw [z] at h; simp at h; exact .inl ⟨rfl, h.symm, (List.getElem?_eq_some_iff.mp z).1⟩
    · rw [List.getElem?_set_ne q] at h
      exact .inr ⟨q, h⟩
  refine ⟨S.gr, by rw [List.length_set, List.length_set]; exact S.len, fun j e h => ?_, fun j es h => ?_, fun j k a b p' h1 h2 h3 h4 => ?_⟩
  · rcases key j _ h with ⟨_, z, _⟩ | ⟨q, h⟩
    · cases z
    · rw [List.getElem?_set_ne q]; exact S.dat j e h
  · rcases key j _ h with ⟨rfl, z, hl⟩ | ⟨q, h⟩
    · cases z
      rw [List.getElem?_set_self']
      rw [List.getElem?_eq_getElem (by rw [S.len]; exact hl)]
      exact ⟨p, vs, rfl, hG, hB, hH, r⟩
    · rw [List.getElem?_set_ne q]; exact S.own j es h
  · rcases key j _ h1 with ⟨rfl, z, hl⟩ | ⟨q, h1⟩
    · rcases key k _ h2 with ⟨rfl, z, hl⟩ | ⟨q, h2⟩
      · rfl
      · rw [List.getElem?_set_self', List.getElem?_eq_getElem (by rw [S.len]; exact hl)] at h3
        rw [List.getElem?_set_ne q] at h4
        have : p = p' := by simpa using h3
        subst this
        exact absurd h4 (hn k b q h2)
    · rcases key k _ h2 with ⟨rfl, z, hl⟩ | ⟨q2, h2⟩
      · rw [List.getElem?_set_self', List.getElem?_eq_getElem (by rw [S.len]; exact hl)] at h4
        rw [List.getElem?_set_ne q] at h3
        have : p = p' := by simpa using h4
        subst this
        exact absurd h3 (hn j a q h1)
      · rw [List.getElem?_set_ne q] at h3
        rw [List.getElem?_set_ne q2] at h4
        exact S.sep j k a b p' h1 h2 h3 h4
/-- one's own list is changed -/
theorem Sat.write (S : Sat K G0 B0 ρ σ G H) {i : Nat} {p : Addr} {vs : List V} {ds es : List Dat} (hρ : ρ[i]? = some (.own ds)) (hσ : σ[i]? = some (some (.ref p))) (r : DRs K G vs es) :
    Sat K G0 B0 (ρ.set i (.own es)) σ G (upd H p (.lst vs)) := by
  obtain ⟨p', ws, h1, h2, h3, h4, h5⟩ := S.own i ds hρ
  have e : p = p' := by rw [hσ] at h1; simpa using h1
  subst e
  have key : ∀ (j : Nat) (s : Sl), (ρ.set i (.own es))[j]? = some s → (i = j ∧ s = .own es) ∨ (i ≠ j ∧ ρ[j]? = some s) := fun j s h => by
    by_cases q : i = j
    · subst q
      rw [List.getElem?_set_self'] at h
      rw [hρ] at h; simp at h; exact .inl ⟨rfl, h.symm⟩
    · rw [List.getElem?_set_ne q] at h
      exact .inr ⟨q, h⟩
  refine ⟨⟨S.gr.g, S.gr.s.mut h2, S.gr.h.mut h3, S.gr.m⟩, by rw [List.length_set]; exact S.len, fun j e h => ?_, fun j es' h => ?_, fun j k a b p' g1 g2 g3 g4 => ?_⟩
  · rcases key j _ h with ⟨_, z⟩ | ⟨q, h⟩
    · cases z
    · exact S.dat j e h
  · rcases key j _ h with ⟨rfl, z⟩ | ⟨q, h⟩
    · cases z
      exact ⟨p, vs, hσ, h2, h3, upd_same, r⟩
    · obtain ⟨p2, ws2, k1, k2, k3, k4, k5⟩ := S.own j es' h
      refine ⟨p2, ws2, k1, k2, k3, ?_, k5⟩
      rw [upd_ne]
      · exact k4
      · intro z; subst z
        exact q (S.sep i j ds es' p2 hρ h hσ k1)
  · have o1 : ∃ a', ρ[j]? = some (.own a') := by
      rcases key j _ g1 with ⟨rfl, z⟩ | ⟨q, h⟩
      · exact ⟨_, hρ⟩
      · exact ⟨_, h⟩
    have o2 : ∃ a', ρ[k]? = some (.own a') := by
      rcases key k _ g2 with ⟨rfl, z⟩ | ⟨q, h⟩
      · exact ⟨_, hρ⟩
      · exact ⟨_, h⟩
    obtain ⟨a1, o1⟩ := o1
    obtain ⟨a2, o2⟩ := o2
    exact S.sep j k a1 a2 p' o1 o2 g3 g4
/-- one's own list is frozen -/
theorem Sat.freeze (S : Sat K G0 B0 ρ σ G H) {i : Nat} {ds : List Dat} (hρ : ρ[i]? = some (.own ds)) : ∃ p vs, σ[i]? = some (some (.ref p)) ∧ G p = none ∧ H p = some (.lst vs) ∧ B0 p = none ∧
    Sat K G0 B0 (ρ.set i (.dat (.lst ds))) σ (upd G p (.lst vs)) H := by
  obtain ⟨p, vs, h1, h2, h3, h4, h5⟩ := S.own i ds hρ
  have key : ∀ (j : Nat) (s : Sl), (ρ.set i (.dat (.lst ds)))[j]? = some s → (i = j ∧ s = .dat (.lst ds)) ∨ (i ≠ j ∧ ρ[j]? = some s) := fun j s h => by
    by_cases q : i = j
    · subst q
      rw [List.getElem?_set_self'] at h
      rw [hρ] at h; simp at h; exact .inl ⟨rfl, h.symm⟩
    · rw [List.getElem?_set_ne q] at h
      exact .inr ⟨q, h⟩
  have eg : Ex G (upd G p (.lst vs)) := Evl.Ex.new h2
  have es : Ex (upd G p (.lst vs)) H := fun a u h => by
    by_cases q : a = p
    · subst q; rw [upd_same] at h; cases h; exact h4
    · rw [upd_ne q] at h; exact S.gr.s a u h
  refine ⟨p, vs, h1, h2, h4, h3, ⟨S.gr.g.trans eg, es, S.gr.h, fun a k1 k2 => ?_⟩, by rw [List.length_set]; exact S.len, fun j e h => ?_, fun j es' h => ?_, fun j k a b p' g1 g2 g3 g4 => ?_⟩
  · have q : a ≠ p := fun z => by subst z; exact k2 h3
    rw [upd_ne q]; exact S.gr.m a k1 k2
  · rcases key j _ h with ⟨rfl, z⟩ | ⟨q, h⟩
    · cases z
      exact ⟨.ref p, h1, .lst upd_same (h5.mono eg)⟩
    · obtain ⟨v, k1, k2⟩ := S.dat j e h
      exact ⟨v, k1, k2.mono eg⟩
  · rcases key j _ h with ⟨rfl, z⟩ | ⟨q, h⟩
    · cases z
    · obtain ⟨p2, ws2, k1, k2, k3, k4, k5⟩ := S.own j es' h
      refine ⟨p2, ws2, k1, ?_, k3, k4, k5.mono eg⟩
      rw [upd_ne]
      · exact k2
      · intro z; subst z
        exact q (S.sep i j ds es' p2 hρ h h1 k1)
  · rcases key j _ g1 with ⟨rfl, z⟩ | ⟨q, g1⟩
    · cases z
    · rcases key k _ g2 with ⟨rfl, z⟩ | ⟨q, g2⟩
      · cases z
      · exact S.sep j k a b p' g1 g2 g3 g4
end

/-! ### what a reading yields -/
def Sem (K : PySem.W.Frag) (t : TE) (ρ : List Sl) (d : Dat) : Prop :=
  ∀ G0 B0 σ G H, Sat K G0 B0 ρ σ G H → ∀ Q : VK, (∀ v G' H', Grow G H G' H' → DR K G' v d → Q v H') → t σ H Q
def SemT (K : PySem.W.Frag) (t : TT) (ρ : List Sl) (b : Bool) : Prop :=
  ∀ G0 B0 σ G H, Sat K G0 B0 ρ σ G H → ∀ Q : Bool → Hp → Prop, (∀ G' H', Grow G H G' H' → Q b H') → t σ H Q
def SemA (K : PySem.W.Frag) (t : TA) (ρ : List Sl) (ds : List Dat) : Prop :=
  ∀ G0 B0 σ G H, Sat K G0 B0 ρ σ G H → ∀ Q : List V → Hp → Prop, (∀ vs G' H', Grow G H G' H' → DRs K G' vs ds → Q vs H') → t σ H Q
/-- a new list that nobody else knows -/
def SemN (K : PySem.W.Frag) (t : TE) (ρ : List Sl) (ds : List Dat) : Prop :=
  ∀ G0 B0 σ G H, Sat K G0 B0 ρ σ G H → ∀ Q : VK, (∀ p vs G' H', Grow G H G' H' → H p = none → G' p = none → H' p = some (.lst vs) → DRs K G' vs ds → Q (.ref p) H') → t σ H Q
def SemO (K : PySem.W.Frag) (t : TO) (ρ : List Sl) (o : Option Int) : Prop :=
  ∀ G0 B0 σ G H, Sat K G0 B0 ρ σ G H → ∀ Q : Option Int → Hp → Prop, (∀ G' H', Grow G H G' H' → Q o H') → t σ H Q
/-- by values: an operation, a call -/
def OpS (K : PySem.W.Frag) (r : R2) (a b c : Dat) : Prop :=
  ∀ x y G H, Ex G H → DR K G x a → DR K G y b → ∀ Q : VK, (∀ v G' H', Grow G H G' H' → DR K G' v c → Q v H') → r x y H Q
def UnS (K : PySem.W.Frag) (r : V → Hp → VK → Prop) (a c : Dat) : Prop :=
  ∀ x G H, Ex G H → DR K G x a → ∀ Q : VK, (∀ v G' H', Grow G H G' H' → DR K G' v c → Q v H') → r x H Q
def CallS (K : PySem.W.Frag) (r : List V → Hp → VK → Prop) (ds : List Dat) (c : Dat) : Prop :=
  ∀ xs G H, Ex G H → DRs K G xs ds → ∀ Q : VK, (∀ v G' H', Grow G H G' H' → DR K G' v c → Q v H') → r xs H Q
def MtS (K : PySem.W.Frag) (r : V → List V → Hp → VK → Prop) (a : Dat) (ds : List Dat) (c : Dat) : Prop :=
  ∀ x xs G H, Ex G H → DR K G x a → DRs K G xs ds → ∀ Q : VK, (∀ v G' H', Grow G H G' H' → DR K G' v c → Q v H') → r x xs H Q
def SlS (K : PySem.W.Frag) (r : V → Option Int → Option Int → Hp → VK → Prop) (a : Dat) (lo hi : Option Int) (c : Dat) : Prop :=
  ∀ x G H, Ex G H → DR K G x a → ∀ Q : VK, (∀ v G' H', Grow G H G' H' → DR K G' v c → Q v H') → r x lo hi H Q

section
variable {K : PySem.W.Frag} {ρ : List Sl} {t ta tb tc te : TE} {a b c d : Dat}
theorem s_var {i : Nat} (h : ρ[i]? = some (.dat d)) : Sem K (tVar i) ρ d := fun G0 B0 σ G H S Q q => by
  obtain ⟨v, h1, h2⟩ := S.dat i d h
  exact ⟨v, h1, q v G H (Grow.refl S.gr.s) h2⟩
theorem s_c {v : V} (h : ∀ G, DR K G v d) : Sem K (tC v) ρ d := fun G0 B0 σ G H S Q q => q v G H (Grow.refl S.gr.s) (h G)
theorem s_int {i : Int} : Sem K (tC (.int i)) ρ (.int i) := s_c fun _ => .int i
theorem s_bl {i : Bool} : Sem K (tC (.bl i)) ρ (.bl i) := s_c fun _ => .bl i
theorem s_non : Sem K (tC .non) ρ .non := s_c fun _ => .non
theorem s_str {x : Str} : Sem K (tC (.str x)) ρ (.txt x.cps.toList) := s_c fun _ => .ofStr x
theorem s_op {r : R2} (ha : Sem K ta ρ a) (hb : Sem K tb ρ b) (hr : OpS K r a b c) : Sem K (tOp r ta tb) ρ c := fun G0 B0 σ G H S Q q =>
  ha _ _ _ _ _ S _ fun x G1 H1 g1 rx => hb _ _ _ _ _ (S.grow g1) _ fun y G2 H2 g2 ry => hr x y G2 H2 g2.s (rx.mono g2.g) ry Q fun v G3 H3 g3 rv => q v G3 H3 ((g1.trans g2).trans g3) rv
theorem s_un {r : V → Hp → VK → Prop} (ha : Sem K ta ρ a) (hr : UnS K r a c) : Sem K (tUn r ta) ρ c := fun G0 B0 σ G H S Q q =>
  ha _ _ _ _ _ S _ fun x G1 H1 g1 rx => hr x G1 H1 g1.s rx Q fun v G3 H3 g3 rv => q v G3 H3 (g1.trans g3) rv
theorem s_is {e : Dat} (h : Sem K t ρ d) (z : d = e) : Sem K t ρ e := z ▸ h
theorem st_is {e e' : Bool} {t : TT} (h : SemT K t ρ e) (z : e = e') : SemT K t ρ e' := z ▸ h
theorem s_chain {r r' : R2} {k l : Bool} (ha : Sem K ta ρ a) (hb : Sem K tb ρ b) (hr : OpS K r a b (.bl k)) (hc : k = true → Sem K tc ρ c) (hr' : k = true → OpS K r' b c (.bl l)) : Sem K (tChain r r' ta tb tc) ρ (.bl (k && l)) := fun G0 B0 σ G H S Q q =>
  ha _ _ _ _ _ S _ fun x G1 H1 g1 rx => hb _ _ _ _ _ (S.grow g1) _ fun y G2 H2 g2 ry => hr x y G2 H2 g2.s (rx.mono g2.g) ry _ fun v G3 H3 g3 rv => by
    cases rv
    refine ⟨k, rfl, ?_⟩
    cases k with
    | false => exact q _ G3 H3 ((g1.trans g2).trans g3) (.bl _)
    | true =>
      rw [if_pos rfl]
      exact hc rfl _ _ _ _ _ (((S.grow g1).grow g2).grow g3) _ fun w G4 H4 g4 rw' => hr' rfl y w G4 H4 g4.s (ry.mono (g3.trans g4).g) rw' Q fun v G5 H5 g5 rv => q v G5 H5 ((((g1.trans g2).trans g3).trans g4).trans g5) rv
theorem s_andV {k : Bool} (ha : Sem K ta ρ (.bl k)) (hb : k = true → Sem K tb ρ d) : Sem K (tAndV ta tb) ρ (if k then d else .bl false) := fun G0 B0 σ G H S Q q =>
  ha _ _ _ _ _ S _ fun x G1 H1 g1 rx => by
    cases rx
    refine ⟨k, rfl, ?_⟩
    cases k with
    | false => exact q _ G1 H1 g1 (.bl _)
    | true => rw [if_pos rfl]; exact hb rfl _ _ _ _ _ (S.grow g1) _ fun y G2 H2 g2 ry => q _ _ _ (g1.trans g2) ry
theorem s_orV {k : Bool} (ha : Sem K ta ρ (.bl k)) (hb : k = false → Sem K tb ρ d) : Sem K (tOrV ta tb) ρ (if k then .bl true else d) := fun G0 B0 σ G H S Q q =>
  ha _ _ _ _ _ S _ fun x G1 H1 g1 rx => by
    cases rx
    refine ⟨k, rfl, ?_⟩
    cases k with
    | true => exact q _ G1 H1 g1 (.bl _)
    | false => rw [if_neg (by simp)]; exact hb rfl _ _ _ _ _ (S.grow g1) _ fun y G2 H2 g2 ry => q _ _ _ (g1.trans g2) ry
theorem s_andB {k l : Bool} (ha : Sem K ta ρ (.bl k)) (hb : k = true → Sem K tb ρ (.bl l)) : Sem K (tAndV ta tb) ρ (.bl (k && l)) := s_is (s_andV ha hb) (by cases k <;> rfl)
theorem s_orB {k l : Bool} (ha : Sem K ta ρ (.bl k)) (hb : k = false → Sem K tb ρ (.bl l)) : Sem K (tOrV ta tb) ρ (.bl (k || l)) := s_is (s_orV ha hb) (by cases k <;> rfl)
theorem s_notB {k : Bool} (ha : Sem K ta ρ (.bl k)) : Sem K (tNotV ta) ρ (.bl (!k)) := fun G0 B0 σ G H S Q q =>
  ha _ _ _ _ _ S _ fun x G1 H1 g1 rx => by
    cases rx
    exact ⟨k, rfl, q _ G1 H1 g1 (.bl _)⟩
theorem s_if {u : TT} {k : Bool} (h : SemT K u ρ k) (ha : k = true → Sem K ta ρ a) (hb : k = false → Sem K tb ρ b) : Sem K (tIf u ta tb) ρ (if k then a else b) := fun G0 B0 σ G H S Q q =>
  h _ _ _ _ _ S _ fun G1 H1 g1 => by
    cases k with
    | true => rw [if_pos rfl]; exact ha rfl _ _ _ _ _ (S.grow g1) _ fun y G2 H2 g2 ry => q _ _ _ (g1.trans g2) ry
    | false => rw [if_neg (by simp)]; exact hb rfl _ _ _ _ _ (S.grow g1) _ fun y G2 H2 g2 ry => q _ _ _ (g1.trans g2) ry
/-! tests -/
theorem st_and {u w : TT} {k l : Bool} (ha : SemT K u ρ k) (hb : k = true → SemT K w ρ l) : SemT K (tAnd u w) ρ (k && l) := fun G0 B0 σ G H S Q q =>
  ha _ _ _ _ _ S _ fun G1 H1 g1 => by
    cases k with
    | true => rw [if_pos rfl]; exact hb rfl _ _ _ _ _ (S.grow g1) _ fun G2 H2 g2 => q _ _ (g1.trans g2)
    | false => rw [if_neg (by simp)]; exact q _ _ g1
theorem st_or {u w : TT} {k l : Bool} (ha : SemT K u ρ k) (hb : k = false → SemT K w ρ l) : SemT K (tOr u w) ρ (k || l) := fun G0 B0 σ G H S Q q =>
  ha _ _ _ _ _ S _ fun G1 H1 g1 => by
    cases k with
    | true => rw [if_pos rfl]; exact q _ _ g1
    | false => rw [if_neg (by simp)]; exact hb rfl _ _ _ _ _ (S.grow g1) _ fun G2 H2 g2 => q _ _ (g1.trans g2)
theorem st_not {u : TT} {k : Bool} (ha : SemT K u ρ k) : SemT K (tNot u) ρ (!k) := fun G0 B0 σ G H S Q q =>
  ha _ _ _ _ _ S _ fun G1 H1 g1 => q _ _ g1
/-- a datum's truth -/
def truD : Dat → Bool
  | .non => false
  | .bl b => b
  | .int i => i != 0
  | .txt cs => !cs.isEmpty
  | .lst xs => !xs.isEmpty
  | .tup xs => !xs.isEmpty
  | .ins _ _ => true
  | .dct kvs => !kvs.isEmpty
  | .scr ns => !ns.isEmpty
  | .ty _ => true
  | .cls _ => true
  | .exc _ _ => true
def txtFits : Dat → Prop
  | .txt cs => cs.length ≤ sizeLine
  | .ins _ _ => False
  | .ty _ => False
  | .cls _ => False
  | .exc _ _ => False
  | _ => True
theorem DRs.isEmpty {H : Hp} {vs : List V} {ds : List Dat} (r : DRs K H vs ds) : (!vs.isEmpty) = !ds.isEmpty := by cases r <;> rfl
theorem DRk.isEmpty {H : Hp} {vs : List (Key × V)} {ds : List (Key × Dat)} (r : DRk K H vs ds) : (!vs.isEmpty) = !ds.isEmpty := by cases r <;> rfl
theorem st_tru (ha : Sem K ta ρ d) (hf : txtFits d) : SemT K (tTru K ta) ρ (truD d) := fun G0 B0 σ G H S Q q =>
  ha _ _ _ _ _ S _ fun x G1 H1 g1 rx => by
    refine ⟨truD d, ?_, q _ _ g1⟩
    cases rx with
    | non => rfl
    | ty n => exact hf.elim
    | cls n => exact hf.elim
    | exc0 h => exact hf.elim
    | exc1 h h2 r => exact hf.elim
    | bl b => rfl
    | int i => rfl
    | txt cs =>
      refine ⟨by
        have hf' : cs.length ≤ sizeLine := hf
        simpa [Str.length] using hf', ?_⟩
      cases cs <;> simp [truD, Str.length]
      omega
    | lst h r => exact .inl ⟨_, .inl (.inl (g1.s _ _ h)), r.isEmpty.symm⟩
    | @scr a ns h => exact .inl ⟨_, ex_l g1.s h, by cases ns <;> rfl⟩
    | tup h r => exact .inr (.inl ⟨_, ex_t g1.s h, r.isEmpty.symm⟩)
    | ins h r => exact hf.elim
    | dct h r => exact .inr (.inr ⟨_, g1.s _ _ h, r.isEmpty.symm⟩)
theorem st_bl {k : Bool} (ha : Sem K ta ρ (.bl k)) : SemT K (tTru K ta) ρ k := st_tru ha trivial
/-! arguments, displays, slices, calls -/
theorem sa_nil : SemA K tNil ρ [] := fun G0 B0 σ G H S Q q => q [] G H (Grow.refl S.gr.s) .nil
theorem sa_cons {tr : TA} {ds : List Dat} (ha : Sem K ta ρ a) (hr : SemA K tr ρ ds) : SemA K (tCons ta tr) ρ (a :: ds) := fun G0 B0 σ G H S Q q =>
  ha _ _ _ _ _ S _ fun x G1 H1 g1 rx => hr _ _ _ _ _ (S.grow g1) _ fun xs G2 H2 g2 rs => q _ _ _ (g1.trans g2) (.cons (rx.mono g2.g) rs)
theorem s_tup {u : TA} {ds : List Dat} (h : SemA K u ρ ds) (hl : ds.length ≤ sizeLine := by decide) : Sem K (tTup u) ρ (.tup ds) := fun G0 B0 σ G H S Q q =>
  h _ _ _ _ _ S _ fun xs G1 H1 g1 rs => ⟨by rw [rs.length]; exact hl, fun p hp => q _ _ _ (g1.trans (Grow.new g1.s hp)) (.tup (.inl (.inl upd_same)) (rs.mono (Evl.Ex.new (fresh_back g1.s hp))))⟩
theorem s_lst {u : TA} {ds : List Dat} (h : SemA K u ρ ds) (hl : ds.length ≤ sizeLine := by decide) : Sem K (tLst u) ρ (.lst ds) := fun G0 B0 σ G H S Q q =>
  h _ _ _ _ _ S _ fun xs G1 H1 g1 rs => ⟨by rw [rs.length]; exact hl, fun p hp => q _ _ _ (g1.trans (Grow.new g1.s hp)) (.lst upd_same (rs.mono (Evl.Ex.new (fresh_back g1.s hp))))⟩
theorem sn_lst {u : TA} {ds : List Dat} (h : SemA K u ρ ds) (hl : ds.length ≤ sizeLine := by decide) : SemN K (tLst u) ρ ds := fun G0 B0 σ G H S Q q =>
  h _ _ _ _ _ S _ fun xs G1 H1 g1 rs => ⟨by rw [rs.length]; exact hl, fun p hp => q p xs G1 _ (g1.trans (Grow.newM g1.s hp)) (fresh_back g1.h hp) (fresh_back g1.s hp) upd_same rs⟩
/-- a new list, told as a datum -/
theorem s_ofN {ds : List Dat} (h : SemN K t ρ ds) : Sem K t ρ (.lst ds) := fun G0 B0 σ G H S Q q =>
  h _ _ _ _ _ S _ fun p vs G1 H1 g1 hp hg h1 rs => by
    refine q (.ref p) (upd G1 p (.lst vs)) H1 ⟨g1.g.trans (Evl.Ex.new hg), fun a u e => ?_, g1.h, fun a e1 e2 => ?_⟩ (.lst upd_same (rs.mono (Evl.Ex.new hg)))
    · by_cases z : a = p
      · subst z; rw [upd_same] at e; cases e; exact h1
      · rw [upd_ne z] at e; exact g1.s a u e
    · have z : a ≠ p := fun z => by subst z; exact e2 hp
      rw [upd_ne z]; exact g1.m a e1 e2
theorem so_none : SemO K tNoPart ρ none := fun G0 B0 σ G H S Q q => q G H (Grow.refl S.gr.s)
theorem so_some {i : Int} (h : Sem K te ρ (.int i)) : SemO K (tPart te) ρ (some i) := fun G0 B0 σ G H S Q q => h _ _ _ _ _ S _ fun x G1 H1 g1 rx => by
  cases rx
  exact ⟨i, rfl, q _ _ g1⟩
theorem s_sl {r : V → Option Int → Option Int → Hp → VK → Prop} {tl th : TO} {lo hi : Option Int} (h : Sem K te ρ a) (h1 : SemO K tl ρ lo) (h2 : SemO K th ρ hi) (hr : SlS K r a lo hi c) : Sem K (tSl r te tl th) ρ c := fun G0 B0 σ G H S Q q =>
  h _ _ _ _ _ S _ fun x G1 H1 g1 rx => h1 _ _ _ _ _ (S.grow g1) _ fun G2 H2 g2 => h2 _ _ _ _ _ ((S.grow g1).grow g2) _ fun G3 H3 g3 =>
    hr x G3 H3 g3.s (rx.mono (g2.trans g3).g) Q fun v G4 H4 g4 rv => q v G4 H4 (((g1.trans g2).trans g3).trans g4) rv
theorem s_cb {r : List V → Hp → VK → Prop} {u : TA} {ds : List Dat} (h : SemA K u ρ ds) (hr : CallS K r ds c) : Sem K (tCB r u) ρ c := fun G0 B0 σ G H S Q q =>
  h _ _ _ _ _ S _ fun xs G1 H1 g1 rs => hr xs G1 H1 g1.s rs Q fun v G2 H2 g2 rv => q v G2 H2 (g1.trans g2) rv
theorem s_m0 {r : V → List V → Hp → VK → Prop} {cs : List Nat} (h : Sem K te ρ (.txt cs)) (hr : MtS K r (.txt cs) [] c) : Sem K (tM0 r te) ρ c := fun G0 B0 σ G H S Q q =>
  h _ _ _ _ _ S _ fun x G1 H1 g1 rx => ⟨by cases rx; exact ⟨_, rfl⟩, hr x [] G1 H1 g1.s rx .nil Q fun v G2 H2 g2 rv => q v G2 H2 (g1.trans g2) rv⟩
theorem s_m1 {r : V → List V → Hp → VK → Prop} {cs : List Nat} (h : Sem K ta ρ (.txt cs)) (h1 : Sem K te ρ d) (hr : MtS K r (.txt cs) [d] c) : Sem K (tM1 r ta te) ρ c := fun G0 B0 σ G H S Q q =>
  h _ _ _ _ _ S _ fun x G1 H1 g1 rx => ⟨by cases rx; exact ⟨_, rfl⟩, h1 _ _ _ _ _ (S.grow g1) _ fun y G2 H2 g2 ry =>
    hr x [y] G2 H2 g2.s (rx.mono g2.g) (.cons ry .nil) Q fun v G3 H3 g3 rv => q v G3 H3 ((g1.trans g2).trans g3) rv⟩
/-- a def's promise by data: R of what is handed in and what is told -/
def spD (K : PySem.W.Frag) (R : List Dat → Dat → Prop) : Sp := fun vs H Q _ => ∃ G ds d, Ex G H ∧ DRs K G vs ds ∧ R ds d ∧ ∀ v G' H', Grow G H G' H' → DR K G' v d → Q v H'
theorem s_call {R : List Dat → Dat → Prop} {E : XK} {u : TA} {ds : List Dat} (h : SemA K u ρ ds) (hr : R ds c) : Sem K (tCall (spD K R) [] E u) ρ c := fun G0 B0 σ G H S Q q =>
  h _ _ _ _ _ S _ fun xs G1 H1 g1 rs => ⟨G1, ds, c, g1.s, by rw [List.append_nil]; exact rs, hr, fun v G2 H2 g2 rv => q v G2 H2 (g1.trans g2) rv⟩
end
end DL

set_option Elab.async false
set_option linter.all false
set_option maxRecDepth 100000
namespace DL
open PySem PySem.Spec PyProof.Rows L2
open Evl (Ex ex_l ex_t fresh_back)

/-! ### operators for all data at once -/
def uAdd (K : PySem.W.Frag) : R2 := fun x y H Q => (∃ i j, x = .int i ∧ y = .int j ∧ Q (.int (i + j)) H) ∨ (∃ i j, x = .str i ∧ y = .str j ∧ i.length + j.length ≤ sizeLine ∧ Q (.str (i ++ j)) H) ∨ rCat x y H Q ∨ rCatA K x y H Q
def uSub : R2 := fun x y H Q => ∃ i j, x = .int i ∧ y = .int j ∧ Q (.int (i - j)) H
def uMul : R2 := fun x y H Q => (∃ i j, x = .int i ∧ y = .int j ∧ CMul i j ∧ Q (.int (i * j)) H) ∨ (∃ a n, x = .str a ∧ y = .int n ∧ MulOk a n ∧ Q (.str (Txt.mul a n)) H)
def uDiv : R2 := fun x y H Q => ∃ i j, x = .int i ∧ y = .int j ∧ CDiv i j ∧ Q (.int (i / j)) H
def uMod : R2 := fun x y H Q => ∃ i j, x = .int i ∧ y = .int j ∧ 0 < j ∧ Q (.int (i % j)) H
def uEq (K : PySem.W.Frag) : R2 := fun x y H Q => rEq x y H Q ∨ rEqD K x y H Q
def uNe (K : PySem.W.Frag) : R2 := fun x y H Q => rNe x y H Q ∨ rNeD K x y H Q
def uLt : R2 := fun x y H Q => (∃ i j, x = .int i ∧ y = .int j ∧ Q (.bl (decide (i < j))) H)
def uLe : R2 := fun x y H Q => (∃ i j, x = .int i ∧ y = .int j ∧ Q (.bl (decide (i ≤ j))) H)
def uGt : R2 := fun x y H Q => (∃ i j, x = .int i ∧ y = .int j ∧ Q (.bl (decide (j < i))) H)
def uGe : R2 := fun x y H Q => (∃ i j, x = .int i ∧ y = .int j ∧ Q (.bl (decide (j ≤ i))) H)
def uIn (K : PySem.W.Frag) : R2 := fun x y H Q => (∃ (c : Nat) (z : Str), x = .str ⟨#[c]⟩ ∧ y = .str z ∧ Q (.bl (decide (c ∈ z.cps.toList))) H) ∨ rIn K false x y H Q ∨ rInD K x y H Q
def uNotIn (K : PySem.W.Frag) : R2 := fun x y H Q => (∃ (c : Nat) (z : Str), x = .str ⟨#[c]⟩ ∧ y = .str z ∧ Q (.bl (!decide (c ∈ z.cps.toList))) H) ∨ rIn K true x y H Q ∨ rNotInD K x y H Q
def uIs : R2 := fun x y H Q => (y = .non ∧ Q (.bl (decide (x = .non))) H) ∨ (∃ a b : Bool, x = .bl a ∧ y = .bl b ∧ Q (.bl (decide (a = b))) H)
def uIsNot : R2 := fun x y H Q => (y = .non ∧ Q (.bl (!decide (x = .non))) H) ∨ (∃ a b : Bool, x = .bl a ∧ y = .bl b ∧ Q (.bl (!decide (a = b))) H)
def uSl (K : PySem.W.Frag) : V → Option Int → Option Int → Hp → VK → Prop := fun x lo hi H Q => rSlS x lo hi H Q ∨ rSlL K x lo hi H Q ∨ rSlA K x lo hi H Q
def uNeg : V → Hp → VK → Prop := fun x H Q => ∃ i, x = .int i ∧ Q (.int (-i)) H
section
variable {X : Cx} {K : PySem.W.Frag}
theorem op_mul_str : OpR X (binaryOp .Mult) (fun x y H Q => ∃ a n, x = .str a ∧ y = .int n ∧ MulOk a n ∧ Q (.str (Txt.mul a n)) H) := by
  intro pins s σ H x y v u Q I rx ry h
  obtain ⟨a, n, rfl, rfl, hok, q⟩ := h
  obtain ⟨t, rfl⟩ := rx
  obtain ⟨t', rfl⟩ := ry
  exact SB.mul hok fun t' k => ⟨.str (Txt.mul a n), H, I.tok _, ⟨_, rfl⟩, q⟩
theorem ou_add (hK : X.K = K) : OpR X (binaryOp .Add) (uAdd K) := by
  subst hK
  exact OpR.or op_add (OpR.or op_add_str (OpR.or op_cat op_catA))
theorem ou_sub : OpR X (binaryOp .Sub) uSub := op_sub
theorem ou_mul : OpR X (binaryOp .Mult) uMul := OpR.or op_mul op_mul_str
theorem ou_div : OpR X (binaryOp .FloorDiv) uDiv := op_fdiv
theorem ou_mod : OpR X (binaryOp .Mod) uMod := op_mod
theorem ou_eq (hK : X.K = K) (hu : X.A.units + 64 < cLine) : OpR X (compareOp .Eq) (uEq K) := by
  subst hK
  exact OpR.or op_eq (op_eqD hu)
theorem ou_ne (hK : X.K = K) (hu : X.A.units + 64 < cLine) : OpR X (compareOp .NotEq) (uNe K) := by
  subst hK
  exact OpR.or op_ne (op_neD hu)
theorem ou_lt : OpR X (compareOp .Lt) uLt := op_lt
theorem ou_le : OpR X (compareOp .LtE) uLe := op_le
theorem ou_gt : OpR X (compareOp .Gt) uGt := op_gt
theorem ou_ge : OpR X (compareOp .GtE) uGe := op_ge
theorem ou_in (hK : X.K = K) (hu : X.A.units + 65 < cLine) : OpR X (compareOp .In) (uIn K) := by
  subst hK
  exact OpR.or op_in_sign (OpR.or op_in_seq (op_inD hu))
theorem ou_notin (hK : X.K = K) (hu : X.A.units + 65 < cLine) : OpR X (compareOp .NotIn) (uNotIn K) := by
  subst hK
  exact OpR.or op_notIn_sign (OpR.or op_notIn_seq (op_notInD hu))
theorem ou_is : OpR X (compareOp .Is) uIs := OpR.or op_isN op_is_bl
theorem ou_isnot : OpR X (compareOp .IsNot) uIsNot := OpR.or op_notN op_isnot_bl
theorem ou_neg : UnR X (unaryOp .USub) uNeg := un_neg
theorem ou_ix (hK : X.K = K) : IxR X (rIx K) := by
  subst hK
  exact ix_seq
theorem ou_sl (hK : X.K = K) : SlR X (uSl K) := by
  subst hK
  exact SlR.or sl_str (SlR.or sl_list sl_tupA)
theorem pt_any {a : Expr} {ta : TE} (hK : X.K = K) (ha : PE X a ta) (he : ∀ whole, isTrue a X.env whole = (do let v ← whole; standAt a.pos; holding [v] (truthy v)) := by intro _; rfl) : PT X a (tTru K ta) := by
  subst hK
  exact pt_truth ha he
theorem room65 {k : Nat} {A : Around} (r : Room k A) : A.units + 65 < cLine := by have := r.un; omega
theorem room64 {k : Nat} {A : Around} (r : Room k A) : A.units + 64 < cLine := by have := r.un; omega
end

/-! ### the operators by data -/
section
variable {K : PySem.W.Frag}
theorem os_val {r : R2} {a b c : Dat} (h : ∀ x y G H, Ex G H → DR K G x a → DR K G y b → ∃ v, (∀ G, DR K G v c) ∧ ∀ Q : VK, Q v H → r x y H Q) : OpS K r a b c := fun x y G H e rx ry Q q => by
  obtain ⟨v, h1, h2⟩ := h x y G H e rx ry
  exact h2 Q (q v G H (Grow.refl e) (h1 G))
theorem os_addI {i j : Int} : OpS K (uAdd K) (.int i) (.int j) (.int (i + j)) := fun x y G H e rx ry Q q => by
  cases rx; cases ry
  exact .inl ⟨i, j, rfl, rfl, q _ _ _ (Grow.refl e) (.int _)⟩
theorem os_addT {a b : List Nat} (h : a.length + b.length ≤ sizeLine) : OpS K (uAdd K) (.txt a) (.txt b) (.txt (a ++ b)) := fun x y G H e rx ry Q q => by
  cases rx; cases ry
  refine .inr (.inl ⟨_, _, rfl, rfl, by rw [← strL, ← strL, strL_len, strL_len]; exact h, q _ _ _ (Grow.refl e) ?_⟩)
  have z := strL_app a b
  unfold strL at z
  rw [z]
  exact .txt _
theorem os_addL {a b : List Dat} (h : a.length + b.length ≤ sizeLine) : OpS K (uAdd K) (.lst a) (.lst b) (.lst (a ++ b)) := fun x y G H e rx ry Q q => by
  cases rx with
  | lst h1 r1 =>
    cases ry with
    | lst h2 r2 =>
      refine .inr (.inr (.inl ⟨_, _, _, _, rfl, rfl, e _ _ h1, e _ _ h2, by rw [r1.length, r2.length]; exact h, fun p hp => q _ _ _ (Grow.new e hp) (.lst upd_same ?_)⟩))
      exact (r1.append r2).mono (Evl.Ex.new (fresh_back e hp))
theorem os_addU {a b : List Dat} (h : a.length + b.length ≤ sizeLine) : OpS K (uAdd K) (.tup a) (.tup b) (.tup (a ++ b)) := fun x y G H e rx ry Q q => by
  cases rx with
  | tup h1 r1 =>
    cases ry with
    | tup h2 r2 =>
      refine .inr (.inr (.inr ⟨_, _, _, _, rfl, rfl, ex_t e h1, ex_t e h2, by rw [r1.length, r2.length]; exact h, fun z => ?_, fun z w => ?_, fun z w p hp => ?_⟩))
      · subst z
        cases r1
        exact q _ _ _ (Grow.refl e) (.tup h2 r2)
      · subst w
        cases r2
        rw [List.append_nil] at q
        exact q _ _ _ (Grow.refl e) (.tup h1 r1)
      · exact q _ _ _ (Grow.new e hp) (.tup (.inl (.inl upd_same)) ((r1.append r2).mono (Evl.Ex.new (fresh_back e hp))))
theorem os_sub {i j : Int} : OpS K uSub (.int i) (.int j) (.int (i - j)) := fun x y G H e rx ry Q q => by
  cases rx; cases ry
  exact ⟨i, j, rfl, rfl, q _ _ _ (Grow.refl e) (.int _)⟩
theorem os_mul {i j : Int} (h : CMul i j) : OpS K uMul (.int i) (.int j) (.int (i * j)) := fun x y G H e rx ry Q q => by
  cases rx; cases ry
  exact .inl ⟨i, j, rfl, rfl, h, q _ _ _ (Grow.refl e) (.int _)⟩
theorem os_div {i j : Int} (h : 0 < j ∧ j < 1073741824) : OpS K uDiv (.int i) (.int j) (.int (i / j)) := fun x y G H e rx ry Q q => by
  cases rx; cases ry
  exact ⟨i, j, rfl, rfl, h, q _ _ _ (Grow.refl e) (.int _)⟩
theorem os_mod {i j : Int} (h : 0 < j) : OpS K uMod (.int i) (.int j) (.int (i % j)) := fun x y G H e rx ry Q q => by
  cases rx; cases ry
  exact ⟨i, j, rfl, rfl, h, q _ _ _ (Grow.refl e) (.int _)⟩
theorem os_lt {i j : Int} : OpS K uLt (.int i) (.int j) (.bl (decide (i < j))) := fun x y G H e rx ry Q q => by
  cases rx; cases ry
  exact ⟨i, j, rfl, rfl, q _ _ _ (Grow.refl e) (.bl _)⟩
theorem os_le {i j : Int} : OpS K uLe (.int i) (.int j) (.bl (decide (i ≤ j))) := fun x y G H e rx ry Q q => by
  cases rx; cases ry
  exact ⟨i, j, rfl, rfl, q _ _ _ (Grow.refl e) (.bl _)⟩
theorem os_gt {i j : Int} : OpS K uGt (.int i) (.int j) (.bl (decide (j < i))) := fun x y G H e rx ry Q q => by
  cases rx; cases ry
  exact ⟨i, j, rfl, rfl, q _ _ _ (Grow.refl e) (.bl _)⟩
theorem os_ge {i j : Int} : OpS K uGe (.int i) (.int j) (.bl (decide (j ≤ i))) := fun x y G H e rx ry Q q => by
  cases rx; cases ry
  exact ⟨i, j, rfl, rfl, q _ _ _ (Grow.refl e) (.bl _)⟩
theorem us_neg {i : Int} : UnS K uNeg (.int i) (.int (-i)) := fun x G H e rx Q q => by
  cases rx
  exact ⟨i, rfl, q _ _ _ (Grow.refl e) (.int _)⟩
theorem mul_list (a : List Nat) : ∀ (n : Nat) (acc : List Nat), (List.replicate n a.toArray).foldl (· ++ ·) acc.toArray = (acc ++ (List.replicate n a).flatten).toArray
  | 0, acc => by simp
  | n + 1, acc => by
    rw [List.replicate_succ, List.foldl_cons, List.append_toArray, mul_list a n (acc ++ a), List.replicate_succ, List.flatten_cons, List.append_assoc]
/-- a text so many times -/
theorem os_mulT {a : List Nat} {n : Nat} (h : 2 ≤ n) (h2 : n ≤ 1000) (hz : a.length ≤ 1000) : OpS K uMul (.txt a) (.int n) (.txt (List.replicate n a).flatten) := fun x y G H e rx ry Q q => by
  cases rx; cases ry
  have hm : a.length * n ≤ 1000 * 1000 := Nat.mul_le_mul hz h2
  have e1 : (⟨a.toArray⟩ : Str).length = a.length := by simp [Str.length]
  refine .inr ⟨_, _, rfl, rfl, ⟨?_, fun _ _ => ?_, fun _ _ => ?_⟩, ?_⟩
  · rw [Bool.or_eq_false_iff]
    exact ⟨decide_eq_false (by omega), decide_eq_false (by omega)⟩
  · rw [e1]
    have : (1000 : Int) ≤ (2 ^ 63 - 1) / (n : Int) := by
      rw [Int.le_ediv_iff_mul_le (by omega)]
      omega
    omega
  · rw [e1]
    have : Builtin.Str.tooLong (a.length * (n : Int).toNat) = false := by
      unfold Builtin.Str.tooLong sizeLine
      rw [Int.toNat_natCast]
      exact decide_eq_false (by omega)
    exact this
  · have z : Txt.mul ⟨a.toArray⟩ (n : Int) = strL (List.replicate n a).flatten := by
      unfold Txt.mul
      rw [if_neg (by omega), e1]
      cases a with
      | nil =>
        rw [if_pos (by simp)]
        have : (List.replicate n ([] : List Nat)).flatten = [] := by
          rw [List.flatten_eq_nil_iff]
          intro l hl
          exact (List.mem_replicate.mp hl).2
        rw [this]; rfl
      | cons c r =>
        rw [if_neg]
        · have := mul_list (c :: r) n []
          rw [Int.toNat_natCast]
          show Str.mk _ = Str.mk _
          rw [List.nil_append] at this
          exact congrArg Str.mk this
        · simp
          omega
    rw [z]
    exact q _ _ _ (Grow.refl e) (.txt _)
/-! equality -/
theorem strL_eq (a b : List Nat) : decide ((V.str ⟨a.toArray⟩ : V) = .str ⟨b.toArray⟩) = decide (a = b) := by
  by_cases h : a = b
  · subst h; simp
  · rw [decide_eq_false h]
    refine decide_eq_false fun z => h ?_
    exact strL_inj (V.str.inj z)
theorem os_eqT {a b : List Nat} : OpS K (uEq K) (.txt a) (.txt b) (.bl (decide (a = b))) := fun x y G H e rx ry Q q => by
  cases rx; cases ry
  refine .inl ⟨rfl, ?_⟩
  rw [strL_eq]
  exact q _ _ _ (Grow.refl e) (.bl _)
theorem os_neT {a b : List Nat} : OpS K (uNe K) (.txt a) (.txt b) (.bl (!decide (a = b))) := fun x y G H e rx ry Q q => by
  cases rx; cases ry
  refine .inl ⟨rfl, ?_⟩
  rw [strL_eq]
  exact q _ _ _ (Grow.refl e) (.bl _)
theorem int_eq (a b : Int) : decide ((V.int a : V) = .int b) = decide (a = b) := by
  by_cases h : a = b
  · subst h; simp
  · rw [decide_eq_false h]
    exact decide_eq_false fun z => h (V.int.inj z)
theorem bl_eq (a b : Bool) : decide ((V.bl a : V) = .bl b) = decide (a = b) := by cases a <;> cases b <;> rfl
theorem os_eqI {a b : Int} : OpS K (uEq K) (.int a) (.int b) (.bl (decide (a = b))) := fun x y G H e rx ry Q q => by
  cases rx; cases ry
  refine .inl ⟨rfl, ?_⟩
  rw [int_eq]
  exact q _ _ _ (Grow.refl e) (.bl _)
theorem os_neI {a b : Int} : OpS K (uNe K) (.int a) (.int b) (.bl (!decide (a = b))) := fun x y G H e rx ry Q q => by
  cases rx; cases ry
  refine .inl ⟨rfl, ?_⟩
  rw [int_eq]
  exact q _ _ _ (Grow.refl e) (.bl _)
theorem os_eqB {a b : Bool} : OpS K (uEq K) (.bl a) (.bl b) (.bl (decide (a = b))) := fun x y G H e rx ry Q q => by
  cases rx; cases ry
  refine .inl ⟨rfl, ?_⟩
  rw [bl_eq]
  exact q _ _ _ (Grow.refl e) (.bl _)
theorem os_neB {a b : Bool} : OpS K (uNe K) (.bl a) (.bl b) (.bl (!decide (a = b))) := fun x y G H e rx ry Q q => by
  cases rx; cases ry
  refine .inl ⟨rfl, ?_⟩
  rw [bl_eq]
  exact q _ _ _ (Grow.refl e) (.bl _)
/-! deep equality -/
mutual
def toPy : Dat → PyData
  | .non => .none
  | .bl b => .bool b
  | .int i => .int i
  | .txt cs => .str (strL cs)
  | .lst xs => .list (toPys xs)
  | .tup xs => .tuple (toPys xs)
  | .scr ns => .list (ns.map .int)
  | .ins _ _ => .none
  | .dct _ => .none
  | .ty _ => .none
  | .cls _ => .none
  | .exc _ _ => .none
def toPys : List Dat → List PyData
  | [] => []
  | x :: r => toPy x :: toPys r
end
/-! plain data: no objects, no dicts -/
mutual
def plainD : Dat → Bool
  | .non | .bl _ | .int _ | .txt _ | .scr _ => true
  | .lst xs => plainDs xs
  | .tup xs => plainDs xs
  | _ => false
def plainDs : List Dat → Bool
  | [] => true
  | x :: r => plainD x && plainDs r
end
theorem dpInts {H : Hp} : ∀ ns : List Int, DpAll K H (ns.map V.int) (ns.map .int)
  | [] => .nil
  | n :: r => .cons (.int n) (dpInts r)
mutual
theorem DR.dp {H : Hp} : ∀ {v : V} {d : Dat}, DR K H v d → plainD d = true → Dp K H v (toPy d)
  | _, _, .non, _ => .non
  | _, _, .bl b, _ => .bl b
  | _, _, .int i, _ => .int i
  | _, _, .txt cs, _ => .str _
  | _, _, .lst h r, p => .lst (.inl (.inl h)) (DRs.dp r (by simpa [plainD] using p))
  | _, _, .tup h r, p => .tup h (DRs.dp r (by simpa [plainD] using p))
  | _, _, @DR.scr _ _ a ns h, _ => .lst h (dpInts ns)
  | _, _, .ins _ _, p => by simp [plainD] at p
  | _, _, .dct _ _, p => by simp [plainD] at p
  | _, _, .ty _, p => by simp [plainD] at p
  | _, _, .cls _, p => by simp [plainD] at p
  | _, _, .exc0 _, p => by simp [plainD] at p
  | _, _, .exc1 _ _ _, p => by simp [plainD] at p
theorem DRs.dp {H : Hp} : ∀ {v : List V} {d : List Dat}, DRs K H v d → plainDs d = true → DpAll K H v (toPys d)
  | _, _, .nil, _ => .nil
  | _, _, .cons h r, p => by
    rw [plainDs, Bool.and_eq_true] at p
    exact .cons (DR.dp h p.1) (DRs.dp r p.2)
end
theorem os_eqD {a b : Dat} (pa : plainD a = true) (pb : plainD b = true) (sa : SeqAt.shaped (toPy a) = true) (sb : SeqAt.shaped (toPy b) = true) : OpS K (uEq K) a b (.bl (PyData.eqv (toPy a) (toPy b))) := fun x y G H e rx ry Q q =>
  .inr ⟨_, _, (rx.mono e).dp pa, (ry.mono e).dp pb, sa, sb, q _ _ _ (Grow.refl e) (.bl _)⟩
theorem os_neD {a b : Dat} (pa : plainD a = true) (pb : plainD b = true) (sa : SeqAt.shaped (toPy a) = true) (sb : SeqAt.shaped (toPy b) = true) : OpS K (uNe K) a b (.bl (!PyData.eqv (toPy a) (toPy b))) := fun x y G H e rx ry Q q =>
  .inr ⟨_, _, (rx.mono e).dp pa, (ry.mono e).dp pb, sa, sb, q _ _ _ (Grow.refl e) (.bl _)⟩
theorem lay_ints : ∀ ns : List Int, PyData.canLayAll0 (ns.map PyData.int) = true
  | [] => rfl
  | n :: r => by
    show (PyData.canLay0 (.int n) && PyData.canLayAll0 (r.map PyData.int)) = true
    rw [lay_ints r]; rfl
theorem depth_ints : ∀ ns : List Int, PyData.depthAll (ns.map PyData.int) = 0
  | [] => rfl
  | n :: r => by
    show max (PyData.depth (.int n)) (PyData.depthAll (r.map PyData.int)) = 0
    rw [depth_ints r]; rfl
theorem shaped_ints (ns : List Int) : SeqAt.shaped (.list (ns.map .int)) = true := by
  unfold SeqAt.shaped
  rw [Bool.and_eq_true]
  refine ⟨lay_ints ns, decide_eq_true ?_⟩
  show PyData.depthAll (ns.map PyData.int) + 1 ≤ 64
  rw [depth_ints]; decide
theorem os_neScr {ns : List Int} : OpS K (uNe K) (.scr ns) (.lst []) (.bl (!ns.isEmpty)) := by
  have h := os_neD (K := K) (a := .scr ns) (b := .lst []) rfl rfl (shaped_ints ns) (by decide +kernel)
  have e : PyData.eqv (toPy (.scr ns)) (toPy (.lst [])) = ns.isEmpty := by cases ns <;> rfl
  rw [e] at h
  exact h
/-! in -/
theorem os_inC {c : Nat} {b : List Nat} : OpS K (uIn K) (.txt [c]) (.txt b) (.bl (decide (c ∈ b))) := fun x y G H e rx ry Q q => by
  cases rx; cases ry
  exact .inl ⟨c, _, rfl, rfl, q _ _ _ (Grow.refl e) (.bl _)⟩
theorem os_notinC {c : Nat} {b : List Nat} : OpS K (uNotIn K) (.txt [c]) (.txt b) (.bl (!decide (c ∈ b))) := fun x y G H e rx ry Q q => by
  cases rx; cases ry
  exact .inl ⟨c, _, rfl, rfl, q _ _ _ (Grow.refl e) (.bl _)⟩
theorem flat_txts : ∀ bs : List (List Nat), ((bs.map strL).map V.str).all flatV = true
  | [] => rfl
  | b :: r => by
    show (true && ((r.map strL).map V.str).all flatV) = true
    rw [flat_txts r]; rfl
theorem inV_txts (a : List Nat) : ∀ bs : List (List Nat), inV (.str ⟨a.toArray⟩) ((bs.map strL).map V.str) = decide (a ∈ bs)
  | [] => rfl
  | b :: r => by
    have ih := inV_txts a r
    unfold inV at ih ⊢
    rw [List.map_cons, List.map_cons, List.any_cons, ih]
    have e : eqV (.str (strL b)) (.str ⟨a.toArray⟩) = decide (a = b) := by
      show (strL b == strL a) = decide (a = b)
      by_cases h : a = b
      · subst h; simp
      · rw [decide_eq_false h]
        exact beq_eq_false_iff_ne.mpr fun z => h (strL_inj z).symm
    rw [e]
    by_cases h : a = b
    · subst h; simp
    · simp [h]
theorem os_inTT {a : List Nat} {bs : List (List Nat)} : OpS K (uIn K) (.txt a) (.tup (bs.map .txt)) (.bl (decide (a ∈ bs))) := fun x y G H e rx ry Q q => by
  cases rx
  cases ry with
  | tup h r =>
    have z := r.txts
    subst z
    refine .inr (.inl ⟨_, _, rfl, .inr (ex_t e h), rfl, flat_txts bs, ?_⟩)
    rw [inV_txts]
    exact q _ _ _ (Grow.refl e) (.bl _)
theorem os_notinTT {a : List Nat} {bs : List (List Nat)} : OpS K (uNotIn K) (.txt a) (.tup (bs.map .txt)) (.bl (!decide (a ∈ bs))) := fun x y G H e rx ry Q q => by
  cases rx
  cases ry with
  | tup h r =>
    have z := r.txts
    subst z
    refine .inr (.inl ⟨_, _, rfl, .inr (ex_t e h), rfl, flat_txts bs, ?_⟩)
    rw [inV_txts]
    exact q _ _ _ (Grow.refl e) (.bl _)
theorem os_inTL {a : List Nat} {bs : List (List Nat)} : OpS K (uIn K) (.txt a) (.lst (bs.map .txt)) (.bl (decide (a ∈ bs))) := fun x y G H e rx ry Q q => by
  cases rx
  cases ry with
  | lst h r =>
    have z := r.txts
    subst z
    refine .inr (.inl ⟨_, _, rfl, .inl (.inl (.inl (e _ _ h))), rfl, flat_txts bs, ?_⟩)
    rw [inV_txts]
    exact q _ _ _ (Grow.refl e) (.bl _)
theorem os_notinTL {a : List Nat} {bs : List (List Nat)} : OpS K (uNotIn K) (.txt a) (.lst (bs.map .txt)) (.bl (!decide (a ∈ bs))) := fun x y G H e rx ry Q q => by
  cases rx
  cases ry with
  | lst h r =>
    have z := r.txts
    subst z
    refine .inr (.inl ⟨_, _, rfl, .inl (.inl (.inl (e _ _ h))), rfl, flat_txts bs, ?_⟩)
    rw [inV_txts]
    exact q _ _ _ (Grow.refl e) (.bl _)
/-! is -/
theorem os_isB {a b : Bool} : OpS K uIs (.bl a) (.bl b) (.bl (decide (a = b))) := fun x y G H e rx ry Q q => by
  cases rx; cases ry
  exact .inr ⟨a, b, rfl, rfl, q _ _ _ (Grow.refl e) (.bl _)⟩
theorem os_isnotB {a b : Bool} : OpS K uIsNot (.bl a) (.bl b) (.bl (!decide (a = b))) := fun x y G H e rx ry Q q => by
  cases rx; cases ry
  exact .inr ⟨a, b, rfl, rfl, q _ _ _ (Grow.refl e) (.bl _)⟩
def isNon : Dat → Bool
  | .non => true
  | _ => false
theorem DR.isNon {H : Hp} {v : V} {d : Dat} (r : DR K H v d) : decide (v = .non) = isNon d := by cases r <;> rfl
theorem os_isN {a : Dat} : OpS K uIs a .non (.bl (isNon a)) := fun x y G H e rx ry Q q => by
  cases ry
  refine .inl ⟨rfl, ?_⟩
  rw [rx.isNon]
  exact q _ _ _ (Grow.refl e) (.bl _)
theorem os_isnotN {a : Dat} : OpS K uIsNot a .non (.bl (!isNon a)) := fun x y G H e rx ry Q q => by
  cases ry
  refine .inl ⟨rfl, ?_⟩
  rw [rx.isNon]
  exact q _ _ _ (Grow.refl e) (.bl _)
/-! subscripts -/
theorem DRs.atI {H : Hp} {vs : List V} {ds : List Dat} {i : Int} {d : Dat} (r : DRs K H vs ds) (h : atI ds i = some d) : ∃ v, atI vs i = some v ∧ DR K H v d := by
  unfold L2.atI at h ⊢
  rw [r.length]
  cases z : ixN ds.length i with
  | none => rw [z] at h; cases h
  | some j => rw [z] at h; exact r.at h
theorem os_ixL {ds : List Dat} {i : Int} {d : Dat} (h : atI ds i = some d) : OpS K (rIx K) (.lst ds) (.int i) d := fun x y G H e rx ry Q q => by
  cases ry
  cases rx with
  | lst hl r =>
    obtain ⟨v, h1, h2⟩ := r.atI h
    exact .inl ⟨_, _, _, v, rfl, rfl, .inl (.inl (e _ _ hl)), h1, q _ _ _ (Grow.refl e) h2⟩
theorem os_ixU {ds : List Dat} {i : Int} {d : Dat} (h : atI ds i = some d) : OpS K (rIx K) (.tup ds) (.int i) d := fun x y G H e rx ry Q q => by
  cases ry
  cases rx with
  | tup hl r =>
    obtain ⟨v, h1, h2⟩ := r.atI h
    exact .inr (.inl ⟨_, _, _, v, rfl, rfl, ex_t e hl, h1, q _ _ _ (Grow.refl e) h2⟩)
theorem os_ixT {cs : List Nat} {i : Int} {c : Nat} (h : atI cs i = some c) (hz : cs.length ≤ sizeLine) : OpS K (rIx K) (.txt cs) (.int i) (.txt [c]) := fun x y G H e rx ry Q q => by
  cases ry
  cases rx
  exact .inr (.inr ⟨_, _, c, rfl, rfl, by rw [← strL, strL_len]; exact hz, h, q _ _ _ (Grow.refl e) (.txt [c])⟩)
theorem atI_map {α β : Type} (f : α → β) {xs : List α} {i : Int} {x : α} (h : atI xs i = some x) : atI (xs.map f) i = some (f x) := by
  unfold atI at h ⊢
  rw [List.length_map]
  cases z : ixN xs.length i with
  | none => rw [z] at h; cases h
  | some j =>
    rw [z] at h
    show (xs.map f)[j]? = some (f x)
    have h' : xs[j]? = some x := h
    rw [List.getElem?_map, h']
    rfl
theorem os_ixS {ns : List Int} {i : Int} {n : Int} (h : atI ns i = some n) : OpS K (rIx K) (.scr ns) (.int i) (.int n) := fun x y G H e rx ry Q q => by
  cases ry
  cases rx with
  | scr hl => exact .inl ⟨_, _, _, _, rfl, rfl, ex_l e hl, atI_map V.int h, q _ _ _ (Grow.refl e) (.int n)⟩
/-! slices -/
def cutL {α : Type} (xs : List α) (lo hi : Option Int) : List α := (xs.drop (HT.sIx xs.length 0 lo)).take (HT.sIx xs.length xs.length hi - HT.sIx xs.length 0 lo)
theorem ss_txt {cs : List Nat} {lo hi : Option Int} (hz : cs.length ≤ sizeLine) : SlS K (uSl K) (.txt cs) lo hi (.txt (cutL cs lo hi)) := fun x G H e rx Q q => by
  cases rx
  refine .inl ⟨_, rfl, by rw [← strL, strL_len]; exact hz, q _ _ _ (Grow.refl e) ?_⟩
  have z : cutS (strL cs) lo hi = strL (cutL cs lo hi) := by
    unfold cutS cutL
    rw [strL_len, strL_cps]
    rfl
  unfold strL at z
  rw [z]
  exact .txt _
theorem ss_lst {cs : List Dat} {lo hi : Option Int} : SlS K (uSl K) (.lst cs) lo hi (.lst (cutL cs lo hi)) := fun x G H e rx Q q => by
  cases rx with
  | lst h r =>
    refine .inr (.inl ⟨_, _, rfl, .inl (.inl (e _ _ h)), fun p hp => q _ _ _ (Grow.new e hp) (.lst upd_same ?_)⟩)
    unfold cutV cutL
    rw [r.length]
    exact ((r.drop _).take _).mono (Evl.Ex.new (fresh_back e hp))
theorem ss_tup {cs : List Dat} {lo hi : Option Int} : SlS K (uSl K) (.tup cs) lo hi (.tup (cutL cs lo hi)) := fun x G H e rx Q q => by
  cases rx with
  | tup h r =>
    refine .inr (.inr ⟨_, _, rfl, ex_t e h, fun z => ?_, fun z p hp => q _ _ _ (Grow.new e hp) (.tup (.inl (.inl upd_same)) ?_)⟩)
    · rw [r.length] at z
      have e2 : cutL cs lo hi = cs := by
        unfold cutL
        rw [z.1, z.2]
        simp
      rw [e2] at q
      exact q _ _ _ (Grow.refl e) (.tup h r)
    · unfold cutV cutL
      rw [r.length]
      exact ((r.drop _).take _).mono (Evl.Ex.new (fresh_back e hp))
/-! built-in functions -/
def uLen (K : PySem.W.Frag) : List V → Hp → VK → Prop := fun xs H Q => ∃ x n, xs = [x] ∧ LenV K x H n ∧ Q (.int n) H
theorem cu_len {X : Cx} (hK : X.K = K) : CallR X (.builtin "len") (uLen K) := by
  subst hK
  exact call_len
theorem cs_lenT {cs : List Nat} (hz : cs.length ≤ sizeLine) : CallS K (uLen K) [.txt cs] (.int cs.length) := fun xs G H e r Q q => by
  cases r with
  | cons h r =>
    cases r
    cases h
    exact ⟨_, cs.length, rfl, ⟨by rw [← strL, strL_len]; exact hz, by rw [← strL, strL_len]⟩, q _ _ _ (Grow.refl e) (.int _)⟩
theorem cs_lenL {cs : List Dat} : CallS K (uLen K) [.lst cs] (.int cs.length) := fun xs G H e r Q q => by
  cases r with
  | cons h r =>
    cases r
    cases h with
    | lst h r => exact ⟨_, cs.length, rfl, .inl ⟨_, .inl (.inl (e _ _ h)), r.length.symm⟩, q _ _ _ (Grow.refl e) (.int _)⟩
theorem cs_lenU {cs : List Dat} : CallS K (uLen K) [.tup cs] (.int cs.length) := fun xs G H e r Q q => by
  cases r with
  | cons h r =>
    cases r
    cases h with
    | tup h r => exact ⟨_, cs.length, rfl, .inr ⟨_, ex_t e h, r.length.symm⟩, q _ _ _ (Grow.refl e) (.int _)⟩
theorem cs_lenS {ns : List Int} : CallS K (uLen K) [.scr ns] (.int ns.length) := fun xs G H e r Q q => by
  cases r with
  | cons h r =>
    cases r
    cases h with
    | scr h => exact ⟨_, ns.length, rfl, .inl ⟨_, ex_l e h, (List.length_map _).symm⟩, q _ _ _ (Grow.refl e) (.int _)⟩
theorem cu_all {X : Cx} (hK : X.K = K) (hc : X.calm = true) : CallR X (.builtin "all") (rAll K) := by
  subst hK
  exact cr_all hc
theorem cs_all {bs : List Bool} : CallS K (rAll K) [.lst (bs.map .bl)] (.bl (bs.all id)) := fun xs G H e r Q q => by
  cases r with
  | cons h r =>
    cases r
    cases h with
    | lst h r =>
      have z := r.bls
      subst z
      exact ⟨_, bs, rfl, .inl (.inl (e _ _ h)), q _ _ _ (Grow.refl e) (.bl _)⟩
def uMax : List V → Hp → VK → Prop := fun xs H Q => ∃ i j, xs = [.int i, .int j] ∧ Q (.int (if j > i then j else i)) H
def uMin : List V → Hp → VK → Prop := fun xs H Q => ∃ i j, xs = [.int i, .int j] ∧ Q (.int (if j < i then j else i)) H
theorem cu_max {X : Cx} (hc : X.calm = true) : CallR X (.builtin "max") uMax := call_max2 hc
theorem cu_min {X : Cx} (hc : X.calm = true) : CallR X (.builtin "min") uMin := call_min2 hc
theorem cs_max {i j : Int} : CallS K uMax [.int i, .int j] (.int (max i j)) := fun xs G H e r Q q => by
  cases r with
  | cons h r =>
    cases r with
    | cons h2 r =>
      cases r; cases h; cases h2
      refine ⟨i, j, rfl, ?_⟩
      have z : (if j > i then j else i) = max i j := by omega
      rw [z]
      exact q _ _ _ (Grow.refl e) (.int _)
theorem cs_min {i j : Int} : CallS K uMin [.int i, .int j] (.int (min i j)) := fun xs G H e r Q q => by
  cases r with
  | cons h r =>
    cases r with
    | cons h2 r =>
      cases r; cases h; cases h2
      refine ⟨i, j, rfl, ?_⟩
      have z : (if j < i then j else i) = min i j := by omega
      rw [z]
      exact q _ _ _ (Grow.refl e) (.int _)
/-! isinstance with a built-in class -/
def tyD : Dat → Option String
  | .non => some "NoneType"
  | .bl _ => some "bool"
  | .int _ => some "int"
  | .txt _ => some "str"
  | .lst _ => some "list"
  | .tup _ => some "tuple"
  | .dct _ => some "dict"
  | _ => none
theorem cu_isi {X : Cx} (hK : X.K = K) : CallR X (.builtin "isinstance") (rIsi K) := by
  subst hK
  exact call_isi
theorem DR.ty' {H : Hp} {v : V} {d : Dat} {t : String} (r : DR K H v d) (h : tyD d = some t) : TyX K H v (.type t) := by
  cases r with
  | non => cases h; exact .base .non
  | bl b => cases h; exact .base (.bl b)
  | int i => cases h; exact .base (.int i)
  | txt cs => cases h; exact .base (.str _)
  | lst hl r => cases h; exact .base (.lst hl)
  | tup hl r =>
    cases h
    rcases hl with (hl | ⟨o, hl⟩) | hl
    · exact .base (.tup hl)
    · exact .fTuple hl
    · obtain ⟨o, its, n, hk, hc, _⟩ := hl
      exact .kTuple hk hc
  | ins hl r => cases h
  | dct hl r => cases h; exact .base (.dK hl)
  | scr hl => cases h
  | ty n => cases h
  | cls n => cases h
  | exc0 _ => cases h
  | exc1 _ _ _ => cases h
theorem cs_isi {d : Dat} {t n : String} {b : Bool} (h : tyD d = some t) (hk : kitB t n = some b) : CallS K (rIsi K) [d, .ty n] (.bl b) := fun xs G H e r Q q => by
  cases r with
  | cons h1 r =>
    cases r with
    | cons h2 r =>
      cases r; cases h2
      exact ⟨_, _, _, _, b, rfl, .ty n, (h1.mono e).ty' h, kit_ty hk, q _ _ _ (Grow.refl e) (.bl b)⟩
end
end DL

set_option Elab.async false
set_option linter.all false
set_option maxRecDepth 100000
namespace DL
open PySem PySem.Spec PyProof.Rows L2
open Evl (Ex ex_l ex_t fresh_back)

/-! ### what is walked -/
structure Walks (K : PySem.W.Frag) (J : It) (G : Hp) (ds : List Dat) : Prop where
  go : ∀ i G' H, Ex G G' → Ex G' H → i < ds.length → J.go i H
  yld : ∀ i G' H x H' d, Ex G G' → Ex G' H → ds[i]? = some d → J.yld i H x H' → ∃ G'', Grow G' H G'' H' ∧ DR K G'' x d
  stop : ∀ i G' H, Ex G G' → Ex G' H → ds.length ≤ i → J.stop i H
def SemI (K : PySem.W.Frag) (wi : TI) (ρ : List Sl) (ds : List Dat) : Prop :=
  ∀ G0 B0 σ G H, Sat K G0 B0 ρ σ G H → ∀ R : It → Hp → Prop, (∀ J G' H', Grow G H G' H' → Walks K J G' ds → R J H') → wi σ H R
/-- lists, tuples, texts alike -/
def iU (K : PySem.W.Frag) (te : TE) : TI := fun σ H R => te σ H fun x H1 => (∃ a, x = .ref a ∧ (∃ xs, SqL K H1 a xs) ∧ R (Itl K a) H1) ∨ (∃ a, x = .ref a ∧ (∃ xs, SqT K H1 a xs) ∧ R (Itt K a) H1) ∨ (∃ z, x = .str z ∧ R (Its z) H1)
theorem pi_u {X : Cx} {K : PySem.W.Frag} {tg l : Expr} {tl : TE} (hK : X.K = K) (hl : PE X l tl) : PI X tg l (iU K tl) := by
  subst hK
  refine ⟨fun pins s σ H R I h => ?_⟩
  refine thn (hl.run pins s σ H _ I h) fun v s1 ⟨x, H1, I1, r1, q1⟩ => ?_
  rcases q1 with ⟨a, rfl, ⟨xs, hq⟩, q⟩ | ⟨a, rfl, ⟨xs, hq⟩, q⟩ | ⟨z, rfl, q⟩
  · cases r1
    obtain ⟨its, rv, p, hz⟩ := I1.list hq
    exact wpAny_pyIter_list p.isList (pi_one (tk := s1.toks) I1 _ (turn_list a _) ⟨_, Heap.get?_push_size _ rfl, rfl, rfl⟩ q)
  · cases r1
    obtain ⟨its, rv, p, hz⟩ := I1.tuple hq
    exact wpAny_pyIter_tuple (show s1.heap.IsTuple a its.toArray from p) (pi_one (tk := s1.toks) I1 _ (turn_tuple a _) ⟨_, Heap.get?_push_size _ rfl, rfl, rfl⟩ q)
  · obtain ⟨t, rfl⟩ := r1
    cases ha : z.cps.all (· < 128)
    · exact wpAny_pyIter_wide ha (pi_one (tk := s1.toks) I1 _ (turn_str _ z t "str_iterator" (.inr rfl)) ⟨_, Heap.get?_push_size _ rfl, rfl, rfl⟩ q)
    · exact wpAny_pyIter_ascii ha (pi_one (tk := s1.toks) I1 _ (turn_str _ z t "str_ascii_iterator" (.inl rfl)) ⟨_, Heap.get?_push_size _ rfl, rfl, rfl⟩ q)

section
variable {K : PySem.W.Frag} {ρ : List Sl} {t ta tb tc te : TE} {a b c d : Dat}
theorem rd_inj {H : Hp} {p : Addr} {u w : HO} (nu : ∀ o x, u ≠ .frz o x) (nw : ∀ o x, w ≠ .frz o x) (h1 : H p = some u) (h2 : Rd H p w) : u = w := by
  rcases h2 with h2 | ⟨o, h2⟩
  · rw [h1] at h2; exact Option.some.inj h2
  · rw [h1] at h2; exact absurd (Option.some.inj h2) (nu _ _)
theorem walks_list {G : Hp} {p : Addr} {xs : List V} {ds : List Dat} (h : G p = some (.lst xs)) (r : DRs K G xs ds) : Walks K (Itl K p) G ds where
  go := fun i G' H e1 e2 hi => ⟨xs, xs[i]'(by rw [r.length]; exact hi), .inl (.inl (e2 _ _ (e1 _ _ h))), List.getElem?_eq_getElem _⟩
  yld := fun i G' H x H' d e1 e2 hd y => by
    obtain ⟨rfl, y⟩ := y
    obtain ⟨v, h1, h2⟩ := r.at hd
    have h3 := y xs (.inl (.inl (e2 _ _ (e1 _ _ h))))
    rw [h1] at h3
    cases h3
    exact ⟨G', Grow.refl e2, h2.mono e1⟩
  stop := fun i G' H e1 e2 hi => ⟨xs, .inl (.inl (e2 _ _ (e1 _ _ h))), by rw [r.length]; exact hi⟩
theorem walks_scr {G : Hp} {p : Addr} {ns : List Int} (h : SqL K G p (ns.map V.int)) : Walks K (Itl K p) G (ns.map .int) where
  go := fun i G' H e1 e2 hi => ⟨ns.map V.int, (ns.map V.int)[i]'(by rw [List.length_map] at hi ⊢; exact hi), ex_l e2 (ex_l e1 h), List.getElem?_eq_getElem _⟩
  yld := fun i G' H x H' d e1 e2 hd y => by
    obtain ⟨rfl, y⟩ := y
    have h3 := y _ (ex_l e2 (ex_l e1 h))
    rw [List.getElem?_map] at hd h3
    cases z : ns[i]? with
    | none => rw [z] at hd; cases hd
    | some n =>
      rw [z] at hd h3
      cases hd; cases h3
      exact ⟨G', Grow.refl e2, .int n⟩
  stop := fun i G' H e1 e2 hi => ⟨_, ex_l e2 (ex_l e1 h), by rw [List.length_map] at hi ⊢; exact hi⟩
theorem walks_tup {G : Hp} {p : Addr} {xs : List V} {ds : List Dat} (h : SqT K G p xs) (r : DRs K G xs ds) : Walks K (Itt K p) G ds where
  go := fun i G' H e1 e2 hi => ⟨xs, xs[i]'(by rw [r.length]; exact hi), ex_t e2 (ex_t e1 h), List.getElem?_eq_getElem _⟩
  yld := fun i G' H x H' d e1 e2 hd y => by
    obtain ⟨rfl, y⟩ := y
    obtain ⟨v, h1, h2⟩ := r.at hd
    have h3 := y xs (ex_t e2 (ex_t e1 h))
    rw [h1] at h3
    cases h3
    exact ⟨G', Grow.refl e2, h2.mono e1⟩
  stop := fun i G' H e1 e2 hi => ⟨xs, ex_t e2 (ex_t e1 h), by rw [r.length]; exact hi⟩
theorem walks_txt {G : Hp} (cs : List Nat) : Walks K (Its ⟨cs.toArray⟩) G (cs.map fun c => .txt [c]) where
  go := fun i G' H e1 e2 hi => by
    show i < cs.toArray.size
    rw [List.length_map] at hi
    simpa using hi
  yld := fun i G' H x H' d e1 e2 hd y => by
    obtain ⟨rfl, c, h1, rfl⟩ := y
    rw [List.getElem?_map] at hd
    have h2 : cs[i]? = some c := by simpa using h1
    rw [h2] at hd
    cases hd
    exact ⟨G', Grow.refl e2, .txt [c]⟩
  stop := fun i G' H e1 e2 hi => by
    show cs.toArray.size ≤ i
    rw [List.length_map] at hi
    simpa using hi
theorem walks_range {G : Hp} (lo : Int) (n : Nat) : Walks K (Itr lo n) G ((List.range n).map fun k => .int (lo + (k : Nat))) where
  go := fun i G' H e1 e2 hi => by
    rw [List.length_map, List.length_range] at hi
    exact hi
  yld := fun i G' H x H' d e1 e2 hd y => by
    obtain ⟨rfl, rfl⟩ := y
    have hi : i < n := by
      have := (List.getElem?_eq_some_iff.mp hd).1
      rwa [List.length_map, List.length_range] at this
    rw [List.getElem?_map, List.getElem?_range hi] at hd
    cases hd
    exact ⟨G', Grow.refl e2, .int _⟩
  stop := fun i G' H e1 e2 hi => by
    rw [List.length_map, List.length_range] at hi
    exact hi
def itemsD : Dat → Option (List Dat)
  | .lst ds => some ds
  | .tup ds => some ds
  | .txt cs => some (cs.map fun c => .txt [c])
  | .scr ns => some (ns.map .int)
  | _ => none
theorem si_u {ds : List Dat} (h : Sem K te ρ d) (hd : itemsD d = some ds) : SemI K (iU K te) ρ ds := fun G0 B0 σ G H S R q =>
  h _ _ _ _ _ S _ fun x G1 H1 g1 rx => by
    cases rx with
    | lst hl r => cases hd; exact .inl ⟨_, rfl, ⟨_, .inl (.inl (g1.s _ _ hl))⟩, q _ G1 H1 g1 (walks_list hl r)⟩
    | tup hl r => cases hd; exact .inr (.inl ⟨_, rfl, ⟨_, ex_t g1.s hl⟩, q _ G1 H1 g1 (walks_tup hl r)⟩)
    | txt cs => cases hd; exact .inr (.inr ⟨_, rfl, q _ G1 H1 g1 (walks_txt cs)⟩)
    | scr hl => cases hd; exact .inl ⟨_, rfl, ⟨_, ex_l g1.s hl⟩, q _ G1 H1 g1 (walks_scr hl)⟩
    | _ => cases hd
theorem si_range1 {ta : TA} {n : Nat} (h : SemA K ta ρ [.int n]) (hn : n ≤ 1000000000) : SemI K (iRng1 ta) ρ ((List.range n).map fun k => .int ((k : Nat) : Int)) := fun G0 B0 σ G H S R q =>
  h _ _ _ _ _ S _ fun xs G1 H1 g1 rs => by
    cases rs with
    | cons h1 rs =>
      cases rs; cases h1
      refine ⟨(n : Int), rfl, by omega, by omega, ?_⟩
      rw [Int.toNat_natCast]
      have w := walks_range (K := K) (G := G1) 0 n
      simp only [Int.zero_add] at w
      exact q _ G1 H1 g1 w
theorem si_range2 {ta : TA} {lo hi : Int} {n : Nat} (h : SemA K ta ρ [.int lo, .int hi]) (e : (hi - lo).toNat = n) (h1 : -1000000000 ≤ lo) (h2 : lo ≤ 1000000000) (h3 : -1000000000 ≤ hi) (h4 : hi ≤ 1000000000) : SemI K (iRng2 ta) ρ ((List.range n).map fun k => .int (lo + (k : Nat))) := fun G0 B0 σ G H S R q =>
  h _ _ _ _ _ S _ fun xs G1 H1 g1 rs => by
    cases rs with
    | cons k1 rs =>
      cases rs with
      | cons k2 rs =>
        cases rs; cases k1; cases k2
        refine ⟨lo, hi, rfl, ⟨by omega, by omega, by omega, by omega⟩, ?_⟩
        rw [e]
        exact q _ G1 H1 g1 (walks_range lo n)

/-! ### targets -/
def SemG (K : PySem.W.Frag) (g : TG) (d : Dat) (ρ ρ' : List Sl) : Prop :=
  ∀ G0 B0 σ G H v, Sat K G0 B0 ρ σ G H → DR K G v d → ∀ Q : L2.St → Hp → Prop, (∀ σ', Sat K G0 B0 ρ' σ' G H → Q σ' H) → g v σ H Q
def SemGs (K : PySem.W.Frag) (g : TGs) (ds : List Dat) (ρ ρ' : List Sl) : Prop :=
  ∀ G0 B0 σ G H vs, Sat K G0 B0 ρ σ G H → DRs K G vs ds → ∀ Q : L2.St → Hp → Prop, (∀ σ', Sat K G0 B0 ρ' σ' G H → Q σ' H) → g vs σ H Q
theorem sg_name {i : Nat} : SemG K (gName i) d ρ (ρ.set i (.dat d)) := fun G0 B0 σ G H v S r Q q => q _ (S.set r)
theorem sgs_nil : SemGs K gNil [] ρ ρ := fun G0 B0 σ G H v S r Q q => by cases r; exact ⟨rfl, q _ S⟩
theorem sgs_cons {g : TG} {gs : TGs} {ds : List Dat} {ρ1 ρ2 : List Sl} (h1 : SemG K g d ρ ρ1) (h2 : SemGs K gs ds ρ1 ρ2) : SemGs K (gCons g gs) (d :: ds) ρ ρ2 := fun G0 B0 σ G H v S r Q q => by
  cases r with
  | cons r1 r2 => exact ⟨_, _, rfl, h1 _ _ _ _ _ _ S r1 _ fun σ1 S1 => h2 _ _ _ _ _ _ S1 r2 _ q⟩
theorem sg_tup {gs : TGs} {ds : List Dat} {n : Nat} {ρ2 : List Sl} (h : SemGs K gs ds ρ ρ2) (hn : ds.length = n) : SemG K (gTup K n gs) (.tup ds) ρ ρ2 := fun G0 B0 σ G H v S r Q q => by
  cases r with
  | tup hl r => exact ⟨_, _, rfl, ex_t S.gr.s hl, by rw [r.length]; exact hn, h _ _ _ _ _ _ S r _ q⟩

/-! ### comprehensions -/
theorem Sat.forget1 {G0 B0 G H : Hp} {σ : L2.St} {i : Nat} (S : Sat K G0 B0 ρ σ G H) : Sat K G0 B0 (ρ.set i .no) (σ.set i none) G H := S.forget
theorem wipe_set (σ : L2.St) (j : Nat) (x : V) : wipe ((wipe σ [j]).set j (some x)) [j] = wipe σ [j] := by
  show (((σ.set j none).set j (some x)).set j none) = σ.set j none
  rw [List.set_set, List.set_set]
theorem sn_lc {wi : TI} {tt : TT} {j : Nat} {ds : List Dat} (f : Dat → Bool) (g : Dat → Dat) (hi : SemI K wi ρ ds) (hz : ds.length ≤ sizeLine)
    (ht : ∀ d, d ∈ ds → SemT K tt (ρ.set j (.dat d)) (f d)) (he : ∀ d, d ∈ ds → f d = true → Sem K te (ρ.set j (.dat d)) (g d)) :
    SemN K (tLc wi (gName j) tt te [j]) ρ ((ds.filter f).map g) := fun G0 B0 σ G H S Q q =>
  hi _ _ _ _ _ S _ fun J G1 H1 g1 W D hD => by
    have S1 := S.grow g1
    refine ⟨fun i m H' => m = ds.length - i ∧ i ≤ ds.length ∧ ∃ G' acc, Grow G1 H1 G' H' ∧ G' D = none ∧ H' D = some (.lst acc) ∧ DRs K G' acc (((ds.take i).filter f).map g), ⟨ds.length, by omega, Nat.zero_le _, G1, [], Grow.newM g1.s hD, fresh_back g1.s hD, upd_same, .nil⟩, ?_⟩
    rintro i m H' ⟨rfl, hi', G', acc, g2, n2, h2, r2⟩
    have hacc : acc.length ≤ i := by
      rw [r2.length, List.length_map]
      refine Nat.le_trans (List.length_filter_le _ _) ?_
      rw [List.length_take]; omega
    by_cases hlt : i < ds.length
    · have hd : ds[i]? = some ds[i] := List.getElem?_eq_getElem hlt
      have hmem : ds[i] ∈ ds := List.getElem_mem hlt
      refine .inr ⟨W.go i G' H' g2.g g2.s hlt, fun H'' => i + 1 ≤ ds.length ∧ ∃ G' acc, Grow G1 H1 G' H'' ∧ G' D = none ∧ H'' D = some (.lst acc) ∧ DRs K G' acc (((ds.take (i + 1)).filter f).map g), fun H'' p => ⟨ds.length - (i + 1), by omega, rfl, p⟩, fun x H'' hy => ?_⟩
      obtain ⟨G3, g3, rx⟩ := W.yld i G' H' x H'' ds[i] g2.g g2.s hd hy
      have S3 : Sat K G0 B0 (ρ.set j (.dat ds[i])) ((wipe σ [j]).set j (some x)) G3 H'' := by
        have z := (((S1.grow g2).grow g3).forget1 (i := j)).set (i := j) rx
        rw [List.set_set] at z
        exact z
      refine ⟨wipe_set σ j x, ht _ hmem _ _ _ _ _ S3 _ fun G4 H4 g4 => ?_⟩
      have n4 : G4 D = none := (g3.trans g4).m D n2 (by rw [h2]; simp)
      have h4 : H4 D = some (.lst acc) := (g3.trans g4).h _ _ h2
      have et : ds.take (i + 1) = ds.take i ++ [ds[i]] := by rw [List.take_add_one, hd]; rfl
      cases hf : f ds[i] with
      | false =>
        rw [if_neg (by simp)]
        refine ⟨hlt, G4, acc, (g2.trans g3).trans g4, n4, h4, ?_⟩
        rw [et, List.filter_append, List.filter_cons, hf]
        simp only [Bool.false_eq_true, if_false, List.filter_nil, List.append_nil]
        exact r2.mono (g3.trans g4).g
      | true =>
        rw [if_pos rfl]
        refine he _ hmem hf _ _ _ _ _ (S3.grow g4) _ fun y G5 H5 g5 ry => ?_
        have n5 : G5 D = none := g5.m D n4 (by rw [h4]; simp)
        have h5 : H5 D = some (.lst acc) := g5.h _ _ h4
        have gg := ((g2.trans g3).trans g4).trans g5
        refine ⟨acc, h5, by omega, hlt, G5, acc ++ [y], ⟨gg.g, gg.s.mut n5, gg.h.mut hD, gg.m⟩, n5, upd_same, ?_⟩
        rw [et, List.filter_append, List.filter_cons, hf]
        simp only [if_true, List.filter_nil, List.map_append, List.map_cons, List.map_nil]
        exact (r2.mono ((g3.trans g4).trans g5).g).append (.cons ry .nil)
    · have ei : i = ds.length := by omega
      subst ei
      rw [List.take_length] at r2
      exact .inl ⟨W.stop _ G' H' g2.g g2.s (Nat.le_refl _), q D acc G' H' (g1.trans g2) (fresh_back g1.h hD) n2 h2 r2⟩
theorem st_yes : SemT K tYes ρ true := fun G0 B0 σ G H S Q q => q G H (Grow.refl S.gr.s)
/-- without a test -/
theorem sn_lcA {wi : TI} {j : Nat} {ds : List Dat} (g : Dat → Dat) (hi : SemI K wi ρ ds) (hz : ds.length ≤ sizeLine) (he : ∀ d, d ∈ ds → Sem K te (ρ.set j (.dat d)) (g d)) :
    SemN K (tLc wi (gName j) tYes te [j]) ρ (ds.map g) := by
  have h := sn_lc (K := K) (ρ := ρ) (te := te) (tt := tYes) (j := j) (fun _ => true) g hi hz (fun _ _ => st_yes) (fun d hd _ => he d hd)
  rw [List.filter_eq_self.mpr (fun _ _ => rfl)] at h
  exact h

/-! ### statements -/
structure Post where
  nx : List Sl → Prop
  rt : Dat → Prop := fun _ => False
  rn : List Dat → Prop := fun _ => False
  bk : List Sl → Prop := fun _ => False
  ct : List Sl → Prop := fun _ => False
  ex : Addr → List (Str × Dat) → List Sl → Prop := fun _ _ _ => False
/-- what is told of an exception in the air -/
inductive DX (K : PySem.W.Frag) (G : Hp) : Option Addr → List (Str × Dat) → Prop
  | no : DX K G none []
  | fs {d : Addr} {vs : List (Str × V)} {fs : List (Str × Dat)} : G d = some (.xd vs) → DRf K G vs fs → DX K G (some d) fs
theorem DX.mono {K : PySem.W.Frag} {G G' : Hp} {o : Option Addr} {fs : List (Str × Dat)} (e : Ex G G') (h : DX K G o fs) : DX K G' o fs := by
  cases h with
  | no => exact .no
  | fs h r => exact .fs (e _ _ h) (r.mono e)
def SemS (K : PySem.W.Frag) (W : WX) (t : TS) (ρ : List Sl) (P : Post) : Prop :=
  ∀ G0 B0 σ G H (D : Ends), Sat K G0 B0 ρ σ G H → (∀ ρ' σ' G' H', P.nx ρ' → Sat K G0 B0 ρ' σ' G' H' → D.nx σ' H') → ((∀ d v G' H', P.rt d → Grow G0 B0 G' H' → DR K G' v d → D.rt v H') ∧ (∀ ds p vs G' H', P.rn ds → Grow G0 B0 G' H' → B0 p = none → G' p = none → H' p = some (.lst vs) → DRs K G' vs ds → D.rt (.ref p) H')) →
    (∀ ρ' σ' G' H', P.bk ρ' → Sat K G0 B0 ρ' σ' G' H' → D.bk σ' H') → (∀ ρ' σ' G' H', P.ct ρ' → Sat K G0 B0 ρ' σ' G' H' → D.ct σ' H') →
    (∀ C fs dd ρ' σ' G' H', P.ex C fs ρ' → Sat K G0 B0 ρ' σ' G' H' → DX K G' dd fs → W (.ref C) dd σ' H') → t D σ H
variable {P : Post} {u w : TS} {W : WX}
theorem ss_seq (h : SemS K W u ρ { P with nx := fun ρ' => SemS K W w ρ' P }) : SemS K W (tSeq u w) ρ P := fun G0 B0 σ G H D S n r b c x =>
  h G0 B0 σ G H { D with nx := w D } S (fun ρ' σ' G' H' p S' => p _ _ _ _ _ D S' n r b c x) r b c x
theorem ss_next (h : P.nx ρ) : SemS K W tNext ρ P := fun G0 B0 σ G H D S n r b c x => n _ _ _ _ h S
theorem ss_brk (h : P.bk ρ) : SemS K W tBreak ρ P := fun G0 B0 σ G H D S n r b c x => b _ _ _ _ h S
theorem ss_cont (h : P.ct ρ) : SemS K W tCont ρ P := fun G0 B0 σ G H D S n r b c x => c _ _ _ _ h S
theorem ss_asgG {g : TG} {ρ' : List Sl} (h : Sem K te ρ d) (hg : SemG K g d ρ ρ') (p : P.nx ρ') : SemS K W (tAsg te g) ρ P := fun G0 B0 σ G H D S n r b c x =>
  h _ _ _ _ _ S _ fun v G1 H1 g1 rv => hg _ _ _ _ _ _ (S.grow g1) rv _ fun σ' S' => n _ _ _ _ p S'
theorem ss_asg {i : Nat} (h : Sem K te ρ d) (p : P.nx (ρ.set i (.dat d))) : SemS K W (tAsg te (gName i)) ρ P := ss_asgG h sg_name p
/-- x = a new list, which stays one's own -/
theorem ss_asgN {i : Nat} {ds : List Dat} (h : SemN K te ρ ds) (p : P.nx (ρ.set i (.own ds))) : SemS K W (tAsg te (gName i)) ρ P := fun G0 B0 σ G H D S n r b c x =>
  h _ _ _ _ _ S _ fun p' vs G1 H1 g1 hp hg h1 rs => by
    have S1 := S.grow g1
    refine n _ _ _ _ p (S1.setOwn hg (fresh_back S.gr.h hp) h1 rs fun j a hj hr hs => ?_)
    obtain ⟨p2, vs2, k1, k2, k3, k4, k5⟩ := S.own j a hr
    rw [hs] at k1
    have : p' = p2 := by simpa using k1
    subst this
    rw [hp] at k4; cases k4
theorem ss_ret (h : Sem K te ρ d) (p : P.rt d) : SemS K W (tRet te) ρ P := fun G0 B0 σ G H D S n r b c x =>
  h _ _ _ _ _ S _ fun v G1 H1 g1 rv => r.1 _ _ _ _ p (S.gr.trans g1) rv
/-- what is returned is a new list, or one's own: the caller may change it -/
theorem ss_retNew {ds : List Dat} (h : SemN K te ρ ds) (p : P.rn ds) : SemS K W (tRet te) ρ P := fun G0 B0 σ G H D S n r b c x =>
  h _ _ _ _ _ S _ fun p' vs G1 H1 g1 hp hg h1 rs => r.2 _ _ _ _ _ p (S.gr.trans g1) (fresh_back S.gr.h hp) hg h1 rs
theorem ss_retOwn {i : Nat} {ds : List Dat} (hi : ρ[i]? = some (.own ds)) (p : P.rn ds) : SemS K W (tRet (tVar i)) ρ P := fun G0 B0 σ G H D S n r b c x => by
  obtain ⟨p0, vs, k1, k2, k3, k4, k5⟩ := S.own i ds hi
  exact ⟨_, k1, r.2 _ _ _ _ _ p S.gr k3 k2 k4 k5⟩
theorem ss_retN (p : P.rt .non) : SemS K W tRetN ρ P := fun G0 B0 σ G H D S n r b c x => r.1 _ _ _ _ p S.gr .non
theorem ss_drop (h : Sem K te ρ d) (p : P.nx ρ) : SemS K W (tDrop te) ρ P := fun G0 B0 σ G H D S n r b c x =>
  h _ _ _ _ _ S _ fun v G1 H1 g1 rv => n _ _ _ _ p (S.grow g1)
theorem ss_if {c : TT} {k : Bool} (h : SemT K c ρ k) (h1 : k = true → SemS K W u ρ P) (h2 : k = false → SemS K W w ρ P) : SemS K W (tIfS c u w) ρ P := fun G0 B0 σ G H D S n r b ct x =>
  h _ _ _ _ _ S _ fun G1 H1 g1 => by
    cases k with
    | true => rw [if_pos rfl]; exact h1 rfl _ _ _ _ _ _ (S.grow g1) n r b ct x
    | false => rw [if_neg (by simp)]; exact h2 rfl _ _ _ _ _ _ (S.grow g1) n r b ct x
/-- one's own list is told to others -/
theorem ss_freeze (i : Nat) {ds : List Dat} (hi : ρ[i]? = some (.own ds)) (h : SemS K W u (ρ.set i (.dat (.lst ds))) P) : SemS K W u ρ P := fun G0 B0 σ G H D S n r b c x => by
  obtain ⟨p, vs, _, _, _, _, S1⟩ := S.freeze hi
  exact h _ _ _ _ _ _ S1 n r b c x
/-- xs.append(e) -/
theorem ss_app {i : Nat} {ds : List Dat} (hi : ρ[i]? = some (.own ds)) (h : Sem K te ρ d) (hz : ds.length < sizeLine) (p : P.nx (ρ.set i (.own (ds ++ [d])))) : SemS K W (tDrop (tBM K "list" rAppend (tVar i) (tCons te tNil))) ρ P := fun G0 B0 σ G H D S n r b c x => by
  obtain ⟨p0, vs0, k1, _, _, k4, _⟩ := S.own i ds hi
  refine ⟨.ref p0, k1, .inl ⟨rfl, _, .inl (.inl k4)⟩, h _ _ _ _ _ S _ fun v G1 H1 g1 rv => ?_⟩
  have S1 := S.grow g1
  obtain ⟨p1, vs, l1, l2, l3, l4, l5⟩ := S1.own i ds hi
  have : p0 = p1 := by rw [k1] at l1; simpa using l1
  subst this
  exact ⟨p0, vs, v, rfl, rfl, l4, by rw [l5.length]; exact hz, n _ _ _ _ p (S1.write hi l1 (l5.append (.cons rv .nil)))⟩
/-- n += e -/
theorem ss_augI {i : Nat} {a b : Int} {f : Int → Int → Int} (hi : ρ[i]? = some (.dat (.int a))) (h : Sem K te ρ (.int b)) (p : P.nx (ρ.set i (.dat (.int (f a b))))) : SemS K W (tAug i te (ipI f)) ρ P := fun G0 B0 σ G H D S n r bk c x => by
  obtain ⟨v, k1, k2⟩ := S.dat i _ hi
  refine ⟨v, k1, h _ _ _ _ _ S _ fun y G1 H1 g1 ry => ?_⟩
  cases k2; cases ry
  exact ⟨a, b, rfl, rfl, n _ _ _ _ p ((S.grow g1).set (.int _))⟩
theorem ss_for {wi : TI} {g : TG} {ds : List Dat} (hi : SemI K wi ρ ds) (I : Nat → List Sl → Prop) (h0 : I 0 ρ)
    (hs : ∀ i d ρ1, ds[i]? = some d → I i ρ1 → ∃ ρ2, SemG K g d ρ1 ρ2 ∧ SemS K W u ρ2 { P with nx := I (i + 1), ct := I (i + 1), bk := P.nx }) (hd : ∀ ρ1, I ds.length ρ1 → P.nx ρ1) : SemS K W (tFor wi g u) ρ P := fun G0 B0 σ G H D S n r b c xc =>
  hi _ _ _ _ _ S _ fun J G1 H1 g1 Wk => by
    refine ⟨fun i m σ' H' => m = ds.length - i ∧ i ≤ ds.length ∧ ∃ ρ1 G', Ex G1 G' ∧ I i ρ1 ∧ Sat K G0 B0 ρ1 σ' G' H', ⟨ds.length, by omega, Nat.zero_le _, ρ, G1, Evl.Ex.refl _, h0, S.grow g1⟩, ?_⟩
    rintro i m σ' H' ⟨rfl, hi', ρ1, G', e1, hI, S'⟩
    by_cases hlt : i < ds.length
    · have hd' : ds[i]? = some ds[i] := List.getElem?_eq_getElem hlt
      obtain ⟨ρ2, hg, hb⟩ := hs i ds[i] ρ1 hd' hI
      refine .inr ⟨Wk.go i G' H' e1 S'.gr.s hlt, fun σ2 H2 => i + 1 ≤ ds.length ∧ ∃ ρ1 G', Ex G1 G' ∧ I (i + 1) ρ1 ∧ Sat K G0 B0 ρ1 σ2 G' H2, fun σ2 H2 p => ⟨ds.length - (i + 1), by omega, rfl, p⟩, fun x H2 hy => ?_⟩
      obtain ⟨G3, g3, rx⟩ := Wk.yld i G' H' x H2 ds[i] e1 S'.gr.s hd' hy
      refine hg _ _ _ _ _ _ (S'.grow g3) rx _ fun σ3 S3 => ?_
      -- the frozen part at the loop's start stays frozen: G0 := the same with G1's objects
      have S4 : Sat K G3 B0 ρ2 σ3 G3 H2 := ⟨⟨Evl.Ex.refl _, S3.gr.s, S3.gr.h, fun a h _ => h⟩, S3.len, S3.dat, S3.own, S3.sep⟩
      have back : ∀ {ρ' σ' G' H'}, Sat K G3 B0 ρ' σ' G' H' → Sat K G0 B0 ρ' σ' G' H' := fun {ρ' σ' G' H'} S5 =>
        ⟨⟨S3.gr.g.trans S5.gr.g, S5.gr.s, S5.gr.h, fun a h1 h2 => S5.gr.m a (S3.gr.m a h1 h2) h2⟩, S5.len, S5.dat, S5.own, S5.sep⟩
      refine hb _ _ _ _ _ _ S4 (fun ρ' σ' G' H' p S5 => ⟨hlt, ρ', G', (e1.trans g3.g).trans S5.gr.g, p, back S5⟩) ⟨fun d v G' H' p g5 rv => r.1 d v G' H' p ⟨S3.gr.g.trans g5.g, g5.s, g5.h, fun a h1 h2 => g5.m a (S3.gr.m a h1 h2) h2⟩ rv, fun ds p vs G' H' p1 g5 k1 k2 k3 k4 => r.2 ds p vs G' H' p1 ⟨S3.gr.g.trans g5.g, g5.s, g5.h, fun a h1 h2 => g5.m a (S3.gr.m a h1 h2) h2⟩ k1 k2 k3 k4⟩
        (fun ρ' σ' G' H' p S5 => n ρ' σ' G' H' p (back S5)) (fun ρ' σ' G' H' p S5 => ⟨hlt, ρ', G', (e1.trans g3.g).trans S5.gr.g, p, back S5⟩)
        (fun C fs dd ρ' σ' G' H' p S5 hx => xc C fs dd ρ' σ' G' H' p (back S5) hx)
    · have ei : i = ds.length := by omega
      subst ei
      exact .inl ⟨Wk.stop _ G' H' e1 S'.gr.s (Nat.le_refl _), n _ _ _ _ (hd _ hI) S'⟩
theorem ss_while {c : TT} (I : Nat → List Sl → Prop) (m0 : Nat) (h0 : I m0 ρ)
    (hs : ∀ m ρ1, I m ρ1 → ∃ k, SemT K c ρ1 k ∧ (k = true → SemS K W u ρ1 { P with nx := fun ρ2 => ∃ m', m' < m ∧ I m' ρ2, ct := fun ρ2 => ∃ m', m' < m ∧ I m' ρ2, bk := P.nx }) ∧ (k = false → P.nx ρ1)) : SemS K W (tWhile c u) ρ P := fun G0 B0 σ G H D S n r b ct x => by
  refine ⟨fun m σ' H' => ∃ ρ1 G', I m ρ1 ∧ Sat K G0 B0 ρ1 σ' G' H', ⟨m0, ρ, G, h0, S⟩, ?_⟩
  rintro m σ' H' ⟨ρ1, G', hI, S'⟩
  obtain ⟨k, hc, h1, h2⟩ := hs m ρ1 hI
  refine hc _ _ _ _ _ S' _ fun G1 H1 g1 => ?_
  cases k with
  | true =>
    rw [if_pos rfl]
    refine ⟨fun σ2 H2 => ∃ ρ2 G2, (∃ m', m' < m ∧ I m' ρ2) ∧ Sat K G0 B0 ρ2 σ2 G2 H2, ?_, ?_⟩
    · rintro σ2 H2 ⟨ρ2, G2, ⟨m', hm, hI'⟩, S2⟩
      exact ⟨m', hm, ρ2, G2, hI', S2⟩
    · exact h1 rfl _ _ _ _ _ _ (S'.grow g1) (fun ρ' σ' G' H' p S5 => ⟨ρ', G', p, S5⟩) r (fun ρ' σ' G' H' p S5 => n ρ' σ' G' H' p S5) (fun ρ' σ' G' H' p S5 => ⟨ρ', G', p, S5⟩) x
  | false => rw [if_neg (by simp)]; exact n _ _ _ _ (h2 rfl) (S'.grow g1)
/-- what is reached is weakened -/
theorem ss_mono {P' : Post} (h : SemS K W u ρ P') (h1 : ∀ ρ', P'.nx ρ' → P.nx ρ') (h2 : ∀ d, P'.rt d → P.rt d) (h3 : ∀ ρ', P'.bk ρ' → P.bk ρ') (h4 : ∀ ρ', P'.ct ρ' → P.ct ρ') (h5 : ∀ C fs ρ', P'.ex C fs ρ' → P.ex C fs ρ') (h6 : ∀ ds, P'.rn ds → P.rn ds := by exact fun _ h => h) : SemS K W u ρ P := fun G0 B0 σ G H D S n r b c x =>
  h _ _ _ _ _ _ S (fun ρ' σ' G' H' p => n _ _ _ _ (h1 _ p)) ⟨fun d v G' H' p => r.1 _ _ _ _ (h2 _ p), fun ds p vs G' H' p1 => r.2 _ _ _ _ _ (h6 _ p1)⟩ (fun ρ' σ' G' H' p => b _ _ _ _ (h3 _ p)) (fun ρ' σ' G' H' p => c _ _ _ _ (h4 _ p)) (fun C fs dd ρ' σ' G' H' p => x _ _ _ _ _ _ _ (h5 _ _ _ p))
end

/-! ### defs -/
/-- the slots at a def's start -/
def slots (n : Nat) (ds : List Dat) : List Sl := ds.map .dat ++ List.replicate (n - ds.length) .no
theorem sat_start {K : PySem.W.Frag} {N : List Str} {vs : List V} {ds : List Dat} {G H : Hp} (e : Ex G H) (r : DRs K G vs ds) : Sat K G H (slots N.length ds) (L2.start N vs) G H := by
  have hl := r.length
  refine ⟨Grow.refl e, ?_, fun i d h => ?_, fun i d h => ?_, fun i j a b p h1 h2 h3 h4 => ?_⟩
  · unfold slots L2.start
    simp [hl]
  · unfold slots at h
    unfold L2.start
    by_cases hi : i < ds.length
    · rw [List.getElem?_append_left (by simpa using hi), List.getElem?_map] at h
      cases z : ds[i]? with
      | none => rw [z] at h; cases h
      | some d' =>
        rw [z] at h
        cases h
        obtain ⟨v, h1, h2⟩ := r.at z
        refine ⟨v, ?_, h2⟩
        rw [List.getElem?_append_left (by simpa [hl] using hi), List.getElem?_map, h1]
        rfl
    · rw [List.getElem?_append_right (by simpa using hi)] at h
      rw [List.getElem?_replicate] at h
      split at h <;> cases h
  · unfold slots at h
    by_cases hi : i < ds.length
    · rw [List.getElem?_append_left (by simpa using hi), List.getElem?_map] at h
      cases z : ds[i]? with
      | none => rw [z] at h; cases h
      | some d' => rw [z] at h; cases h
    · rw [List.getElem?_append_right (by simpa using hi)] at h
      rw [List.getElem?_replicate] at h
      split at h <;> cases h
  · unfold slots at h1
    by_cases hi : i < ds.length
    · rw [List.getElem?_append_left (by simpa using hi), List.getElem?_map] at h1
      cases z : ds[i]? with
      | none => rw [z] at h1; cases h1
      | some d' => rw [z] at h1; cases h1
    · rw [List.getElem?_append_right (by simpa using hi)] at h1
      rw [List.getElem?_replicate] at h1
      split at h1 <;> cases h1
/-- a def of the module that keeps a promise -/
structure GD (P : Program) (w : World) (K : PySem.W.Frag) (mg : Str → Option Value) (base : Heap) (k : Nat) (x : Str) (ps : List Str) (sp : Sp) : Prop where
  ex : ∃ f fd, FnOk P w K mg base CX0 k f fd ps sp ∧ mg x = some (.ref f) ∧ PySem.W.keepIn K (.ref f) = true ∧ Binds K fd ps []
section
variable {X : Cx} {x : Str} {p pos : Pos} {e : Expr} {es : List Expr} {t : TA} {k : Nat} {ps : List Str} {sp : Sp}
theorem pe_gd (h : GD X.prog X.w X.K X.mg X.base k x ps sp) (hr : Room k X.A) (hg : Gl X x) (ha : PA X (e :: es) t) (hdb : (x == ("__debug__" : Str)) = false := by decide)
    (he : starEach (e :: es) X.env = (false, eval e X.env) :: starEach es X.env := by rfl) (hpl : (backTo pos (starEach es X.env)).any (·.1) = false := by rfl) : PE X (.Call (.Name x p) (e :: es) [] pos) (tCall sp [] E0 t) := by
  obtain ⟨f, fd, F, hm, hk, hb⟩ := h.ex
  exact pe_call F hr hg hm hk hb .nil pass0 ha hdb he hpl
theorem pe_gd0 (h : GD X.prog X.w X.K X.mg X.base k x ps sp) (hr : Room k X.A) (hg : Gl X x) (hdb : (x == ("__debug__" : Str)) = false := by decide) : PE X (.Call (.Name x p) [] [] pos) (tCall sp [] E0 tNil) := by
  obtain ⟨f, fd, F, hm, hk, hb⟩ := h.ex
  exact pe_call0 F hr hg hm hk hb .nil pass0 hdb
end
section
variable {P : Program} {w : World} {K : PySem.W.Frag} {mg : Str → Option Value} {base : Heap}
theorem GD.mono {j k : Nat} {x : Str} {ps : List Str} {sp : Sp} (h : GD P w K mg base j x ps sp) (hj : j ≤ k) : GD P w K mg base k x ps sp := by
  obtain ⟨f, fd, F, r⟩ := h.ex
  exact ⟨f, fd, F.mono hj, r⟩
/-- THE RULE for a def told by data: its reading T, that the body has it, what it yields -/
theorem fn_d {x qual : Str} {st : Stmt} {f : Addr} {fd : FuncData} {N ps : List Str} {k : Nat} {R : List Dat → Dat → Prop} {T : TS} (F : Fun K x qual st f fd) (S : FnScope N ps (defScope st))
    (hlen : ∀ ds d, R ds d → ds.length = ps.length)
    (hp : ∀ (cdv : Value) (A : Around) (outer : List Env) (s : Shared) (H : Hp) (E : XK), Room k (A.deeper (envOfC qual (defScope st) s.heap.objs.size f cdv)) → PSs (cxOf CX0 P w K mg base N qual (defScope st) f cdv A outer s H E).nox (defBody st) T)
    (hs : ∀ ds d, R ds d → SemS K (fun _ _ _ _ => False) T (slots N.length ds) { nx := fun _ => d = .non, rt := fun d' => d' = d }) : FnOk P w K mg base CX0 (k + 1) f fd ps (spD K R) := by
  refine F.ok S (fun vs H Q E h => ?_) (fun cdv A outer s H vs Q E hr h => ?_)
  · obtain ⟨G, ds, d, e, r, hR, q⟩ := h
    rw [r.length]
    exact hlen ds d hR
  · obtain ⟨G, ds, d, e, r, hR, q⟩ := h
    refine ⟨T, hp cdv A outer s H E hr, hs ds d hR G H _ G H _ (sat_start e r) (fun ρ' σ' G' H' h S' => ?_) ⟨fun d' v G' H' h g rv => ?_, fun _ _ _ _ _ h _ _ _ _ _ => h.elim⟩ (fun _ _ _ _ h _ => h.elim) (fun _ _ _ _ h _ => h.elim) (fun _ _ _ _ _ _ _ h _ _ => h.elim)⟩
    · cases h
      exact q _ _ _ S'.gr .non
    · cases h
      exact q _ _ _ g rv
theorem gd_of {x qual : Str} {st : Stmt} {f : Addr} {fd : FuncData} {N ps : List Str} {k : Nat} {R : List Dat → Dat → Prop} {T : TS} (F : Fun K x qual st f fd) (hm : mg x = some (.ref f)) (hb : Binds K fd ps []) (S : FnScope N ps (defScope st))
    (hlen : ∀ ds d, R ds d → ds.length = ps.length)
    (hp : ∀ (cdv : Value) (A : Around) (outer : List Env) (s : Shared) (H : Hp) (E : XK), Room k (A.deeper (envOfC qual (defScope st) s.heap.objs.size f cdv)) → PSs (cxOf CX0 P w K mg base N qual (defScope st) f cdv A outer s H E).nox (defBody st) T)
    (hs : ∀ ds d, R ds d → SemS K (fun _ _ _ _ => False) T (slots N.length ds) { nx := fun _ => d = .non, rt := fun d' => d' = d }) : GD P w K mg base (k + 1) x ps (spD K R) :=
  ⟨f, fd, fn_d F S hlen hp hs, hm, F.kp, hb⟩
end
end DL

set_option Elab.async false
set_option linter.all false
set_option maxRecDepth 100000
namespace DL
open PySem PySem.Spec PyProof.Rows L2
open Evl (Ex ex_l ex_t fresh_back)

/-! ### methods of texts -/
def uSplit : V → List V → Hp → VK → Prop := fun x xs H Q => ∃ a b, x = .str a ∧ xs = [.str b] ∧ (b.length == 0) = false ∧ a.length + 2 ≤ sizeLine ∧ rNewStrs (Txt.split a b) H Q
def uJoin (K : PySem.W.Frag) : V → List V → Hp → VK → Prop := fun x xs H Q => ∃ a p, ∃ ys : List Str, x = .str a ∧ xs = [.ref p] ∧ (SqL K H p (ys.map V.str) ∨ SqT K H p (ys.map V.str)) ∧ (ys.map (·.length)).sum + ys.length * a.length ≤ 16777216 ∧ Q (.str (Txt.join a ys)) H
def uStarts3 : V → List V → Hp → VK → Prop := fun x xs H Q => ∃ (a b : Str) (i : Int), x = .str a ∧ xs = [.str b, .int i] ∧ Q (.bl (Txt.startswith3 a b i)) H
def uFind3 : V → List V → Hp → VK → Prop := fun x xs H Q => ∃ (a b : Str) (i : Int), x = .str a ∧ xs = [.str b, .int i] ∧ Q (.int (Txt.find3 a b i)) H
section
variable {X : Cx} {K : PySem.W.Frag} {o e : Expr} {es : List Expr} {to te : TE} {ta : TA} {apos pos : Pos}
theorem pe_usplit (ho : PE X o to) (he : PE X e te) (hs : starEach [e] X.env = [(false, eval e X.env)] := by rfl) (hbase : attributeBase o "split" X.env (eval o X.env) = eval o X.env := by rfl) (hline : (apos.endLine == pos.line) = true := by rfl) :
    PE X (.Call (.Attribute o "split" apos) [e] [] pos) (tM1 uSplit to te) := pe_split ho he hs hbase hline
theorem pe_ujoin (hK : X.K = K) (ho : PE X o to) (he : PE X e te) (hs : starEach [e] X.env = [(false, eval e X.env)] := by rfl) (hbase : attributeBase o "join" X.env (eval o X.env) = eval o X.env := by rfl) (hline : (apos.endLine == pos.line) = true := by rfl) :
    PE X (.Call (.Attribute o "join" apos) [e] [] pos) (tM1 (uJoin K) to te) := by
  subst hK
  exact pe_join ho he hs hbase hline
end
def joinL (a : List Nat) : List (List Nat) → List Nat
  | [] => []
  | [x] => x
  | x :: y :: r => x ++ a ++ joinL a (y :: r)
theorem join_strL (a : List Nat) : ∀ ys : List (List Nat), Str.join (strL a) (ys.map strL) = strL (joinL a ys)
  | [] => rfl
  | [x] => rfl
  | x :: y :: r => by
    have ih := join_strL a (y :: r)
    show strL x ++ strL a ++ Str.join (strL a) ((y :: r).map strL) = strL (x ++ a ++ joinL a (y :: r))
    rw [ih, strL_app, strL_app]
section
variable {K : PySem.W.Frag} {ρ : List Sl} {t ta tb tc te : TE} {a b c d : Dat}
theorem ofStrs {G : Hp} : ∀ ys : List Str, DRs K G (ys.map V.str) (ys.map fun s => .txt s.cps.toList)
  | [] => .nil
  | y :: r => .cons (.ofStr y) (ofStrs r)
theorem ms_split {a b : List Nat} (hb : b ≠ []) (ha : a.length ≤ 16000000) : MtS K uSplit (.txt a) [.txt b] (.lst ((Txt.split (strL a) (strL b)).map fun s => .txt s.cps.toList)) := fun x xs G H e rx rs Q q => by
  cases rx
  cases rs with
  | cons h r =>
    cases r; cases h
    refine ⟨_, _, rfl, rfl, ?_, ?_, fun p hp => q _ _ _ (Grow.new e hp) (.lst upd_same (ofStrs _))⟩
    · rw [← strL, strL_len]
      cases b with
      | nil => exact absurd rfl hb
      | cons c r => rfl
    · rw [← strL, strL_len]
      unfold sizeLine
      omega
theorem ms_join {a : List Nat} {ys : List (List Nat)} (hz : (ys.map (·.length)).sum + ys.length * a.length ≤ 16777216) : MtS K (uJoin K) (.txt a) [.lst (ys.map .txt)] (.txt (joinL a ys)) := fun x xs G H e rx rs Q q => by
  cases rx
  cases rs with
  | cons h r =>
    cases r
    cases h with
    | lst hl r =>
      have z := r.txts
      subst z
      refine ⟨_, _, ys.map strL, rfl, rfl, .inl (.inl (.inl (e _ _ hl))), ?_, ?_⟩
      · rw [← strL, strL_len, List.length_map, List.map_map]
        have e2 : ((fun s : Str => s.length) ∘ strL) = fun l : List Nat => l.length := by
          funext l
          exact strL_len l
        rw [e2]
        exact hz
      · rw [← strL, show Txt.join (strL a) (ys.map strL) = Str.join (strL a) (ys.map strL) from StrLaws.glued_eq_join _ _, join_strL]
        exact q _ _ _ (Grow.refl e) (.txt _)
theorem ms_joinM {α : Type} {a : List Nat} {xs : List α} {f : α → List Nat} (hz : ((xs.map f).map (·.length)).sum + xs.length * a.length ≤ 16777216) : MtS K (uJoin K) (.txt a) [.lst (xs.map fun x => .txt (f x))] (.txt (joinL a (xs.map f))) := by
  have h := ms_join (K := K) (a := a) (ys := xs.map f) (by rw [List.length_map]; exact hz)
  rw [List.map_map] at h
  exact h
theorem s_dnew : Sem K tDNewK ρ (.dct []) := fun G0 B0 σ G H S Q q p hp => q _ _ _ (Grow.new S.gr.s hp) (.dct upd_same .nil)
/-! ### comprehensions over a list that is made of something -/
theorem sn_lcF {α : Type} {wi : TI} {tt : TT} {j : Nat} {enc : α → Dat} {xs : List α} {f : α → Bool} {g : α → Dat} (hi : SemI K wi ρ (xs.map enc)) (hz : xs.length ≤ sizeLine)
    (ht : ∀ x, x ∈ xs → SemT K tt (ρ.set j (.dat (enc x))) (f x)) (he : ∀ x, x ∈ xs → f x = true → Sem K te (ρ.set j (.dat (enc x))) (g x)) :
    SemN K (tLc wi (gName j) tt te [j]) ρ ((xs.filter f).map g) := fun G0 B0 σ G H S Q q =>
  hi _ _ _ _ _ S _ fun J G1 H1 g1 W D hD => by
    have S1 := S.grow g1
    have hl : (xs.map enc).length = xs.length := List.length_map _
    refine ⟨fun i m H' => m = xs.length - i ∧ i ≤ xs.length ∧ ∃ G' acc, Grow G1 H1 G' H' ∧ G' D = none ∧ H' D = some (.lst acc) ∧ DRs K G' acc (((xs.take i).filter f).map g), ⟨xs.length, by omega, Nat.zero_le _, G1, [], Grow.newM g1.s hD, fresh_back g1.s hD, upd_same, .nil⟩, ?_⟩
    rintro i m H' ⟨rfl, hi', G', acc, g2, n2, h2, r2⟩
    have hacc : acc.length ≤ i := by
      rw [r2.length, List.length_map]
      refine Nat.le_trans (List.length_filter_le _ _) ?_
      rw [List.length_take]; omega
    by_cases hlt : i < xs.length
    · have hx : xs[i]? = some xs[i] := List.getElem?_eq_getElem hlt
      have hd : (xs.map enc)[i]? = some (enc xs[i]) := by rw [List.getElem?_map, hx]; rfl
      have hmem : xs[i] ∈ xs := List.getElem_mem hlt
      refine .inr ⟨W.go i G' H' g2.g g2.s (by omega), fun H'' => i + 1 ≤ xs.length ∧ ∃ G' acc, Grow G1 H1 G' H'' ∧ G' D = none ∧ H'' D = some (.lst acc) ∧ DRs K G' acc (((xs.take (i + 1)).filter f).map g), fun H'' p => ⟨xs.length - (i + 1), by omega, rfl, p⟩, fun x H'' hy => ?_⟩
      obtain ⟨G3, g3, rx⟩ := W.yld i G' H' x H'' (enc xs[i]) g2.g g2.s hd hy
      have S3 : Sat K G0 B0 (ρ.set j (.dat (enc xs[i]))) ((wipe σ [j]).set j (some x)) G3 H'' := by
        have z := (((S1.grow g2).grow g3).forget1 (i := j)).set (i := j) rx
        rw [List.set_set] at z
        exact z
      refine ⟨wipe_set σ j x, ht _ hmem _ _ _ _ _ S3 _ fun G4 H4 g4 => ?_⟩
      have n4 : G4 D = none := (g3.trans g4).m D n2 (by rw [h2]; simp)
      have h4 : H4 D = some (.lst acc) := (g3.trans g4).h _ _ h2
      have et : xs.take (i + 1) = xs.take i ++ [xs[i]] := by rw [List.take_add_one, hx]; rfl
      cases hf : f xs[i] with
      | false =>
        rw [if_neg (by simp)]
        refine ⟨hlt, G4, acc, (g2.trans g3).trans g4, n4, h4, ?_⟩
        rw [et, List.filter_append, List.filter_cons, hf]
        simp only [Bool.false_eq_true, if_false, List.filter_nil, List.append_nil]
        exact r2.mono (g3.trans g4).g
      | true =>
        rw [if_pos rfl]
        refine he _ hmem hf _ _ _ _ _ (S3.grow g4) _ fun y G5 H5 g5 ry => ?_
        have n5 : G5 D = none := g5.m D n4 (by rw [h4]; simp)
        have h5 : H5 D = some (.lst acc) := g5.h _ _ h4
        have gg := ((g2.trans g3).trans g4).trans g5
        refine ⟨acc, h5, by omega, hlt, G5, acc ++ [y], ⟨gg.g, gg.s.mut n5, gg.h.mut hD, gg.m⟩, n5, upd_same, ?_⟩
        rw [et, List.filter_append, List.filter_cons, hf]
        simp only [if_true, List.filter_nil, List.map_append, List.map_cons, List.map_nil]
        exact (r2.mono ((g3.trans g4).trans g5).g).append (.cons ry .nil)
    · have ei : i = xs.length := by omega
      subst ei
      rw [List.take_length] at r2
      exact .inl ⟨W.stop _ G' H' g2.g g2.s (by omega), q D acc G' H' (g1.trans g2) (fresh_back g1.h hD) n2 h2 r2⟩
theorem sn_lcM {α : Type} {wi : TI} {j : Nat} {enc : α → Dat} {xs : List α} {g : α → Dat} (hi : SemI K wi ρ (xs.map enc)) (hz : xs.length ≤ sizeLine)
    (he : ∀ x, x ∈ xs → Sem K te (ρ.set j (.dat (enc x))) (g x)) : SemN K (tLc wi (gName j) tYes te [j]) ρ (xs.map g) := by
  have h := sn_lcF (K := K) (ρ := ρ) (te := te) (tt := tYes) (j := j) (f := fun _ => true) (g := g) hi hz (fun _ _ => st_yes) (fun x hx _ => he x hx)
  rw [List.filter_eq_self.mpr (fun _ _ => rfl)] at h
  exact h
theorem cs_allM {α : Type} {xs : List α} {p : α → Bool} : CallS K (rAll K) [.lst (xs.map fun x => .bl (p x))] (.bl (xs.all p)) := by
  have h := cs_all (K := K) (bs := xs.map p)
  rw [List.map_map, List.all_map] at h
  exact h
theorem st_test {te : TE} {k : Bool} (h : Sem K te ρ (.bl k)) : SemT K (tTest te) ρ k := fun G0 B0 σ G H S Q q => h _ _ _ _ _ S _ fun x G1 H1 g1 rx => by
  cases rx
  exact ⟨k, rfl, q _ _ g1⟩
/-! ### += -/
def uIpAdd : TIp := fun x y H Q => (∃ i j, x = .int i ∧ y = .int j ∧ Q (.int (i + j)) H) ∨ rExt2 x y H Q ∨ (∃ i j, x = .str i ∧ y = .str j ∧ i.length + j.length ≤ sizeLine ∧ Q (.str (i ++ j)) H)
theorem ipu_add {X : Cx} : PIp X .Add uIpAdd := by
  intro pins s σ H x y v u Q I rx ry h
  rcases h with h | h | h
  · exact ip_add pins s σ H x y v u Q I rx ry h
  · exact iop_ext pins s σ H x y v u Q I rx ry h
  · exact iop_add_str pins s σ H x y v u Q I rx ry h
variable {P : Post} {W : WX}
theorem ss_plus {i : Nat} {a b : Int} (hi : ρ[i]? = some (.dat (.int a))) (h : Sem K te ρ (.int b)) (p : P.nx (ρ.set i (.dat (.int (a + b))))) : SemS K W (tAug i te uIpAdd) ρ P := fun G0 B0 σ G H D S n r bk c x => by
  obtain ⟨v, k1, k2⟩ := S.dat i _ hi
  refine ⟨v, k1, h _ _ _ _ _ S _ fun y G1 H1 g1 ry => ?_⟩
  cases k2; cases ry
  exact .inl ⟨a, b, rfl, rfl, n _ _ _ _ p ((S.grow g1).set (.int _))⟩
/-- xs += a list -/
theorem ss_ext {i : Nat} {ds es : List Dat} (hi : ρ[i]? = some (.own ds)) (h : Sem K te ρ (.lst es)) (hz : ds.length + es.length ≤ sizeLine) (p : P.nx (ρ.set i (.own (ds ++ es)))) : SemS K W (tAug i te uIpAdd) ρ P := fun G0 B0 σ G H D S n r b c x => by
  obtain ⟨p0, vs0, k1, _, _, k4, _⟩ := S.own i ds hi
  refine ⟨.ref p0, k1, h _ _ _ _ _ S _ fun v G1 H1 g1 rv => ?_⟩
  have S1 := S.grow g1
  obtain ⟨p1, vs, l1, l2, l3, l4, l5⟩ := S1.own i ds hi
  have : p0 = p1 := by rw [k1] at l1; simpa using l1
  subst this
  cases rv with
  | lst hl r =>
    refine .inr (.inl ⟨p0, _, vs, _, rfl, rfl, l4, S1.gr.s _ _ hl, by rw [l5.length, r.length]; exact hz, n _ _ G1 _ p ?_⟩)
    have z := S1.write hi l1 (l5.append r)
    have e : σ.set i (some (.ref p0)) = σ := by
      apply List.ext_getElem?
      intro m
      by_cases q : i = m
      · subst q
        rw [List.getElem?_set_self', k1]
        rfl
      · rw [List.getElem?_set_ne q]
    rw [e]
    exact z
end
end DL
namespace DL
open PySem PySem.Spec PyProof.Rows L2
open Evl (Ex ex_l ex_t fresh_back)
section
variable {K : PySem.W.Frag} {ρ : List Sl}
theorem si_range1Z {ta : TA} {z : Int} (h : SemA K ta ρ [.int z]) (h0 : 0 ≤ z) (hn : z ≤ 1000000000) : SemI K (iRng1 ta) ρ ((List.range z.toNat).map fun k => .int ((k : Nat) : Int)) := by
  have e : z = ((z.toNat : Nat) : Int) := (Int.toNat_of_nonneg h0).symm
  rw [e] at h
  exact si_range1 h (by omega)
theorem os_in2 {a x y : List Nat} : OpS K (uIn K) (.txt a) (.tup [.txt x, .txt y]) (.bl (decide (a ∈ [x, y]))) := os_inTT (bs := [x, y])
theorem os_in3 {a x y z : List Nat} : OpS K (uIn K) (.txt a) (.tup [.txt x, .txt y, .txt z]) (.bl (decide (a ∈ [x, y, z]))) := os_inTT (bs := [x, y, z])
theorem os_notin2 {a x y : List Nat} : OpS K (uNotIn K) (.txt a) (.tup [.txt x, .txt y]) (.bl (!decide (a ∈ [x, y]))) := os_notinTT (bs := [x, y])
end
theorem atI_getD {α : Type} {xs : List α} {i : Int} (d : α) (h0 : 0 ≤ i) (h1 : i < xs.length) : atI xs i = some (xs.getD i.toNat d) := by
  have e : i = ((i.toNat : Nat) : Int) := (Int.toNat_of_nonneg h0).symm
  have hl : i.toNat < xs.length := by omega
  have z : xs[i.toNat]? = some (xs.getD i.toNat d) := by
    rw [List.getElem?_eq_getElem hl, List.getD_eq_getElem?_getD, List.getElem?_eq_getElem hl]
    rfl
  have w := atI_nat z
  rw [← e] at w
  exact w
theorem atI_mapD {α β : Type} (f : α → β) {xs : List α} {i : Int} (d : α) (h0 : 0 ≤ i) (h1 : i < xs.length) : atI (xs.map f) i = some (f (xs.getD i.toNat d)) := atI_map f (atI_getD d h0 h1)
theorem cutL_len {α : Type} (xs : List α) (lo hi : Option Int) : (cutL xs lo hi).length ≤ xs.length := by
  unfold cutL
  rw [List.length_take, List.length_drop]
  omega
theorem sum_len_le {α : Type} (f : α → List Nat) (m : Nat) : ∀ xs : List α, (∀ x ∈ xs, (f x).length ≤ m) → ((xs.map f).map (·.length)).sum ≤ xs.length * m
  | [], _ => Nat.zero_le _
  | x :: r, h => by
    have h1 := h x List.mem_cons_self
    have h2 := sum_len_le f m r fun y hy => h y (List.mem_cons_of_mem _ hy)
    rw [List.map_cons, List.map_cons, List.sum_cons, List.length_cons, Nat.succ_mul]
    show (f x).length + _ ≤ _
    omega
end DL
namespace DL
open PySem PySem.Spec PyProof.Rows L2
theorem kb_NoneType_str : kitB "NoneType" "str" = some false := by decide +kernel
theorem kb_NoneType_bool : kitB "NoneType" "bool" = some false := by decide +kernel
theorem kb_NoneType_int : kitB "NoneType" "int" = some false := by decide +kernel
theorem kb_NoneType_list : kitB "NoneType" "list" = some false := by decide +kernel
theorem kb_NoneType_tuple : kitB "NoneType" "tuple" = some false := by decide +kernel
theorem kb_NoneType_dict : kitB "NoneType" "dict" = some false := by decide +kernel
theorem kb_bool_str : kitB "bool" "str" = some false := by decide +kernel
theorem kb_bool_bool : kitB "bool" "bool" = some true := by decide +kernel
theorem kb_bool_int : kitB "bool" "int" = some true := by decide +kernel
theorem kb_bool_list : kitB "bool" "list" = some false := by decide +kernel
theorem kb_bool_tuple : kitB "bool" "tuple" = some false := by decide +kernel
theorem kb_bool_dict : kitB "bool" "dict" = some false := by decide +kernel
theorem kb_int_str : kitB "int" "str" = some false := by decide +kernel
theorem kb_int_bool : kitB "int" "bool" = some false := by decide +kernel
theorem kb_int_int : kitB "int" "int" = some true := by decide +kernel
theorem kb_int_list : kitB "int" "list" = some false := by decide +kernel
theorem kb_int_tuple : kitB "int" "tuple" = some false := by decide +kernel
theorem kb_int_dict : kitB "int" "dict" = some false := by decide +kernel
theorem kb_str_str : kitB "str" "str" = some true := by decide +kernel
theorem kb_str_bool : kitB "str" "bool" = some false := by decide +kernel
theorem kb_str_int : kitB "str" "int" = some false := by decide +kernel
theorem kb_str_list : kitB "str" "list" = some false := by decide +kernel
theorem kb_str_tuple : kitB "str" "tuple" = some false := by decide +kernel
theorem kb_str_dict : kitB "str" "dict" = some false := by decide +kernel
theorem kb_list_str : kitB "list" "str" = some false := by decide +kernel
theorem kb_list_bool : kitB "list" "bool" = some false := by decide +kernel
theorem kb_list_int : kitB "list" "int" = some false := by decide +kernel
theorem kb_list_list : kitB "list" "list" = some true := by decide +kernel
theorem kb_list_tuple : kitB "list" "tuple" = some false := by decide +kernel
theorem kb_list_dict : kitB "list" "dict" = some false := by decide +kernel
theorem kb_tuple_str : kitB "tuple" "str" = some false := by decide +kernel
theorem kb_tuple_bool : kitB "tuple" "bool" = some false := by decide +kernel
theorem kb_tuple_int : kitB "tuple" "int" = some false := by decide +kernel
theorem kb_tuple_list : kitB "tuple" "list" = some false := by decide +kernel
theorem kb_tuple_tuple : kitB "tuple" "tuple" = some true := by decide +kernel
theorem kb_tuple_dict : kitB "tuple" "dict" = some false := by decide +kernel
theorem kb_dict_str : kitB "dict" "str" = some false := by decide +kernel
theorem kb_dict_bool : kitB "dict" "bool" = some false := by decide +kernel
theorem kb_dict_int : kitB "dict" "int" = some false := by decide +kernel
theorem kb_dict_list : kitB "dict" "list" = some false := by decide +kernel
theorem kb_dict_tuple : kitB "dict" "tuple" = some false := by decide +kernel
theorem kb_dict_dict : kitB "dict" "dict" = some true := by decide +kernel
theorem s_ty {K : PySem.W.Frag} {ρ : List Sl} {n : String} : Sem K (tC (.ty n)) ρ (.ty n) := s_c fun _ => .ty n
end DL

set_option Elab.async false
set_option linter.all false
set_option maxRecDepth 100000
set_option maxHeartbeats 1000000
/-! DLe: exceptions: raised with fields or none, caught and kept. -/
namespace DL
open PySem PySem.Spec PyProof.Rows L2
open Evl (Ex ex_l ex_t fresh_back)
section
variable {X : Cx} {pins : List (Addr × Obj)} {σ : L2.St} {H : Hp} {s : Shared}
/-- an exception's object that stood out of sight is tracked -/
theorem keepExc {a : Addr} {oe : Obj} {fv : Array Value} {cls : Value} {d : Option Addr} (I : Inv X pins σ H s) (ha : s.heap.get? a = some oe) (hz : Zc cls d oe) (hd : oe.data = .fields fv) (na : H a = none)
    (nL : a ≠ X.env.locals) (n0 : X.s_0.heap.get? a = none) (np : ∀ p ∈ X.pn ++ pins, p.1 ≠ a) (nc : ∀ y c, X.env.cells.lookup y = some c → c ≠ a) : Inv X pins σ (upd H a (exv a cls d)) s := by
  have ne : ∀ {b : Addr} {o : HO}, H b = some o → b ≠ a := fun {b o} q => ne_of_none q na
  refine ⟨I.ok, I.os, I.bare, ⟨I.base.keep, I.base.slot, fun b o q n hx => ?_, I.base.there, fun b ys q => ?_, fun b o u q => ?_, fun b ps q => ?_⟩, I.loc, I.cell, ?_, fun y c e => ?_, fun p hp => ?_, fun b o q => ?_, I.len⟩
  · have nb : b ≠ a := fun z => by
      rw [z, n0] at q
      cases q
    rw [upd_ne nb]
    exact I.base.free b o q n hx
  · have z := I.base.tups b ys q
    rw [upd_ne (ne z)]
    exact z
  · have z := I.base.frzs b o u q
    rw [upd_ne (ne z)]
    exact z
  · obtain ⟨more, z⟩ := I.base.tbls b ps q
    exact ⟨more, by rw [upd_ne (ne z)]; exact z⟩
  · rw [upd_ne nL.symm]
    exact I.free
  · rw [upd_ne (nc y c e)]
    exact I.freeC y c e
  · obtain ⟨h1, h2, h3⟩ := I.pin p hp
    exact ⟨h1, by rw [upd_ne (np p hp)]; exact h2, h3⟩
  · by_cases hb : b = a
    · subst hb
      rw [upd_same] at q
      cases q
      exact ⟨⟨oe, fv, ha, hz, hd⟩, ⟨oe, ha⟩, fun h1 h2 z k => by
        obtain ⟨o2, v2, e2, z2, d2⟩ := z
        exact ⟨o2, v2, k _ e2, z2, d2⟩⟩
    · rw [upd_ne hb] at q
      exact (I.hok b o q).stay (fun _ _ _ z => z) (fun c z => by rw [upd_ne (ne z)]; exact z) (fun c ys z => by rw [upd_ne (ne z)]; exact z)
theorem toSuite (I : Inv X pins σ H s) (a : Addr) : Inv (X.suite a (X.pn ++ pins)) [] σ H s :=
  ⟨I.ok.suite _ _, I.os, I.bare, I.base, I.loc, I.cell, I.free, I.freeC, fun p hp => I.pin p (by rw [List.append_nil] at hp; exact hp), I.hok, I.len⟩
theorem ofSuite {a : Addr} {pn' : List (Addr × Obj)} (I : Inv (X.suite a (X.pn ++ pins)) pn' σ H s) (ok : X.Ok) : Inv X pins σ H s :=
  ⟨ok, I.os, I.bare, I.base, I.loc, I.cell, I.free, I.freeC, fun p hp => I.pin p (List.mem_append_left _ hp), I.hok, I.len⟩
end
/-- what 'except c as n' wishes of an exception of the body: slot i is n's; the exception is kept -/
def wK (K : PySem.W.Frag) (c : Value) (i : Nat) (ts : TS) (Wout : WX) (D : Ends) : WX := fun cls d σ H =>
  ∃ b, PySem.W.exmOne K cls c = some b ∧ (b = true → ∀ a, H a = none → ts { nx := fun σ' H' => D.nx (σ'.set i none) H', rt := D.rt, bk := fun σ' H' => D.bk (σ'.set i none) H', ct := fun σ' H' => D.ct (σ'.set i none) H' } (σ.set i (some (.ref a))) (upd H a (exv a cls d))) ∧
    (b = false → Wout cls d σ H)
def tTry (K : PySem.W.Frag) (c : Value) (i : Nat) (tb : WX → TS) (ts : TS) (Wout : WX) : TS := fun D σ H => tb (wK K c i ts Wout D) D σ H
section
variable {X : Cx} {K : PySem.W.Frag} {x n : Str} {c : Value} {i : Nat} {body suite : List Stmt} {b₀ : Stmt} {np pos pos' : Pos} {tb : WX → TS} {ts : TS} {Wout : WX}
theorem ps_tryK (hK : X.K = K) (hst : X.stack = X.env :: X.outer) (hfm : X.env.frame = some X.env.locals) (hex : X.ex = []) (hN : X.N.Nodup) (hi : X.N[i]? = some n) (hln : X.env.kindOf n = some .local) (hc : Names X x c) (tk : Takes X Wout)
    (hb : ∀ (W : WX) (pn : List (Addr × Obj)) (xe : Value → Shared → Prop), Takes (X.tr pn xe) W → PassesOwn (model X.prog X.w) X.A X.env xe → PSs (X.tr pn xe) body (tb W))
    (hsu : ∀ (a : Addr) (pn : List (Addr × Obj)), PSs (X.suite a pn) (b₀ :: suite) ts) :
    PS X (.Try body [.ExceptHandler (some (.Name x np)) (some n) (b₀ :: suite) pos'] [] [] pos) (tTry K c i tb ts Wout) := by
  subst hK
  refine ⟨fun pins s σ H D I hw => ?_⟩
  have ok := I.ok
  have frm : X.A.frames = some (X.env :: X.outer) := ok.frames.trans (congrArg some hst)
  refine wpAny_Try_except ?_
  refine wpAny_mono ((hb (wK X.K c i ts Wout D) (X.pn ++ pins) (fun e s₁ => wpAny (model X.prog X.w) X.A (noteFrame e X.env) (fun _ s₂ => wpAny (model X.prog X.w) X.A (setFlight e none) (fun _ s₃ =>
    wpAny (model X.prog X.w) X.A (handleBy e X.env [.ExceptHandler (some (.Name x np)) (some n) (b₀ :: suite) pos']) (SP X pins D) X.xe s₃) X.xe s₂) X.xe s₁) (fun u s' air => ?_) PassesOwn.looking).run [] s σ H D (I.toTry _) hw) (fun f s1 hsp => ?_) (fun e s1 he => he)
  · obtain ⟨a, B, sI, pins', σ', H', cls, d, rfl, J', nb, up, sky, na, os, ag, b, hb1, hyes, hno⟩ := air
    have J : Inv X pins σ' H' sI := J'.ofTry ok
    rw [show (X.tr (X.pn ++ pins) _).stack = X.env :: X.outer from hst] at sky
    show wpAny (model X.prog X.w) X.A (noteFrame (.ref a) X.env) _ _ _
    refine Sky.land Zc.steady frm hfm sky fun h3 fl3 up3 => ?_
    have J3 : Inv X pins σ' H' { s' with heap := h3 } := J.landed nb fl3.1 (up.trans up3) os ag
    obtain ⟨oe3, vs3, he3, hz3, hd3⟩ := fl3.there
    have nfr : a ∉ frs (X.env :: X.outer) := fun hm => by
      obtain ⟨_, o', e', hnf⟩ := fl3.2.2.1.mem hm
      rw [he3] at e'
      cases e'
      exact hnf _ hd3
    have nL : a ≠ X.env.locals := fun z => nfr (List.mem_filterMap.mpr ⟨X.env, List.mem_cons_self, by rw [hfm, z]⟩)
    have gone : sI.heap.get? a = none := by
      cases q : sI.heap.get? a with
      | none => rfl
      | some o =>
        have z := nb a o q (by rw [show (X.tr (X.pn ++ pins) _).stack = X.env :: X.outer from hst]; exact nfr)
        rw [fl3.2.1] at z
        cases z
    have n0 : X.s_0.heap.get? a = none := by
      cases q : X.s_0.heap.get? a with
      | none => rfl
      | some o =>
        obtain ⟨o', z⟩ := J.base.there a o q (by rw [hex]; simp)
        rw [gone] at z
        cases z
    have npn : ∀ p ∈ X.pn ++ pins, p.1 ≠ a := fun p hp z => by
      have w := (J.pin p hp).1
      rw [z, gone] at w
      cases w
    have ncl : ∀ y c, X.env.cells.lookup y = some c → c ≠ a := fun y c e z => by
      obtain ⟨v, w⟩ := J.cell y c e
      rw [z] at w
      obtain ⟨o, w1, _⟩ := w
      rw [gone] at w1
      cases w1
    have S3 : Inv (X.suite a (X.pn ++ pins)) [] σ' H' { s' with heap := h3 } := toSuite J3 a
    refine wpAny_handleBy_cons (codeAny_handlers_test ?_) (by intro q; cases q)
    have LT : PySem.W.Looks (model X.prog X.w) h3 (typeOf (.ref a)) cls := fun A Q E s k q => wpAny_typeOf_ref (k _ _ he3) (by rw [hz3.1]; exact q)
    have LM := PySem.W.exm_one (M := model X.prog X.w) (J3.kIn) LT hb1
    have asked : ∀ {Q : Value → Shared → Prop} {E : Value → Shared → Prop}, Q c { s' with heap := h3 } → wpAny (model X.prog X.w) (X.A.mark (some (.ref a))) (eval (.Name x np) X.env) Q E { s' with heap := h3 } := fun {Q E} q => by
      obtain ⟨hg, hdbg, hm | ⟨hm, hv, hnn⟩⟩ := hc
      · exact ld_glob (X := X.suite a (X.pn ++ pins)) S3 hg hm q hdbg
      · exact ld_blt (X := X.suite a (X.pn ++ pins)) S3 hg hm hv q hnn hdbg
    refine asked (LM.here ?_)
    cases b with
    | true =>
      refine codeAny_handlers_suite_as ?_
      refine HandSPX.lands_againZ fl3 fun h4 fl4 up4 => ?_
      have J4 : Inv X pins σ' H' { s' with heap := h4 } := J.landed nb fl4.1 ((up.trans up3).trans up4) os ag
      obtain ⟨oe4, vs4, he4, hz4, hd4⟩ := fl4.there
      have K4 := toSuite (keepExc J4 he4 hz4 hd4 na nL n0 npn ncl) a
      refine store_ok (X := X.suite a (X.pn ++ pins)) (v := .ref a) K4 hN hi (.inl hln) rfl (fun s5 S5 => ?_) (.inr hln)
      refine wpAny_mono ((hsu a (X.pn ++ pins)).run [] s5 _ _ _ S5 (hyes rfl a na)) (fun f s6 hsp => ?_) (fun _ _ z => False.elim z)
      have leave : ∀ {σ6 : L2.St} {H6 : Hp} {Q : Shared → Prop}, Inv (X.suite a (X.pn ++ pins)) [] σ6 H6 s6 → (∀ s7, Inv X pins (σ6.set i none) H6 s7 → Q s7) →
          wpAny (model X.prog X.w) X.A (do bindName X.env n .none; unbindBehindTheSuite X.env n pos') (fun _ s7 => Q s7) X.xe s6 := fun {σ6 H6 Q} S6 hq => gone_ok (ofSuite S6 ok) hN hi hln hq
      cases f with
      | next =>
        obtain ⟨σ6, H6, S6, q6⟩ := hsp
        exact leave S6 fun s7 J7 => ⟨_, _, J7, q6⟩
      | brk =>
        obtain ⟨σ6, H6, S6, q6⟩ := hsp
        exact leave S6 fun s7 J7 => ⟨_, _, J7, q6⟩
      | cont =>
        obtain ⟨σ6, H6, S6, q6⟩ := hsp
        exact leave S6 fun s7 J7 => ⟨_, _, J7, q6⟩
      | ret u =>
        obtain ⟨v6, σ6, H6, S6, r6, q6⟩ := hsp
        exact leave S6 fun s7 J7 => ⟨_, _, _, J7, r6, q6⟩
    | false =>
      show wpAny _ X.A (handleBy (.ref a) X.env []) _ _ _
      refine wpAny_handleBy_nil ?_
      obtain ⟨k1, k2, k3, oe, vs, T, oT, ts', he, hz, hd, h1, hr⟩ := id fl3
      unfold PySem.passOn
      refine wpAny_bind (wpAny_field he hd h1 ?_)
      rw [if_neg (show ¬ ((Value.ref T == Value.none) = true) from by simp)]
      have fin : wpAny (model X.prog X.w) X.A (setFlight (.ref a) X.env.frame) (fun _ s4 => wpAny (model X.prog X.w) X.A (throw (.ref a) : PySem.Sem Flow) (SP X pins D) X.xe s4) X.xe { s' with heap := h3 } := by
        rw [hfm]
        refine HandSPX.setFlight_upZ fl3 fun h4 hh4 up4 => wpAny_throw (tk _ _ ?_)
        exact ⟨a, B, sI, pins, σ', H', cls, d, rfl, J, nb, (up.trans up3).trans up4, .inr (.inr (by rw [hst]; exact hh4)), na, os, ag, hno rfl⟩
      first
        | exact wpAny_bind (wpAny_pure (wpAny_bind fin))
        | exact wpAny_bind fin
  · cases f with
    | next =>
      obtain ⟨σ', H', J', q⟩ := hsp
      exact wpAny_execs_nil ⟨σ', H', J'.ofTry ok, q⟩
    | brk =>
      obtain ⟨σ', H', J', q⟩ := hsp
      exact ⟨σ', H', J'.ofTry ok, q⟩
    | cont =>
      obtain ⟨σ', H', J', q⟩ := hsp
      exact ⟨σ', H', J'.ofTry ok, q⟩
    | ret u =>
      obtain ⟨v, σ', H', J', r, q⟩ := hsp
      exact ⟨v, σ', H', J'.ofTry ok, r, q⟩
end
end DL

set_option Elab.async false
set_option linter.all false
set_option maxRecDepth 100000
set_option maxHeartbeats 1000000
/-! DLf: attributes, isinstance of objects and exceptions, exceptions made, the same told by data. -/
namespace PySem.W
open PySem.Calls PyProof.Rows
/-- isinstance asks an exception with or without a dict for its class -/
theorem dl_class {K : Frag} {prog : Program} {w : World} {A : Around} {E : Value → Shared → Prop} {s : Shared} {D x : Addr} {ox : Obj} {od : Option Obj} {Q : Option Value → Shared → Prop} (C : L2.ExcC K D)
    (X : K.In s.heap) (I : InstAt s.heap x ox D od) (h : Q (some (.ref D)) { s with toks := s.toks + 1 }) : wpAny (model prog w) A (getAttr? (.ref x) "__class__") Q E s := by
  have hf : findObj K D od "__class__" = some (.bind (.builtin "getset_descriptor.__get__") (.builtin "object.__class__")) := by
    obtain ⟨cd, hc, _⟩ := any_some C.hd
    unfold findObj
    rw [hc, Option.bind_some, C.ha, Option.bind_some]
    simp [C.hn, C.ht]
  obtain ⟨hp, g, dr, t, os⟩ := s
  have T0 := I.type (M := model prog w)
  have T1 := looks_findIn (M := model prog w) X C.hg
  have T2 := looks_findIn (M := model prog w) X C.hk
  have T3 := looks_find (M := model prog w) X I hf
  have isx : Looks (model prog w) hp (isInstance (.ref x) (.type "BaseException")) true := T0.andThen (looks_subIn X C.hs)
  have c0 : (false && onTheHeap (Value.builtin "BaseException.__getattribute__")) = false := rfl
  have c1 : (onTheHeap (Value.ref D) && Value.builtin "BaseException.__getattribute__" == Value.builtin "object.__getattribute__") = false := by
    rw [show (Value.builtin "BaseException.__getattribute__" == Value.builtin "object.__getattribute__") = false from by decide +kernel]
    rfl
  unfold getAttr? getAttrBy? getAttrBy
  refine wpAny_bind (wpAny_mkText (wpAny_bind (wpAny_attempt (wpAny_holding (wpAny_bind (T0.at (wpAny_bind (T1.at ?_))))))))
  show wpAny _ _ (if (onTheHeap (Value.ref D) && Value.builtin "BaseException.__getattribute__" == Value.builtin "object.__getattribute__") = true then _ else _) _ _ _
  rw [c1, if_neg Bool.false_ne_true]
  unfold getAttrByItsOwn hookBefore
  refine wpAny_bind ?_
  rw [if_pos (show onTheHeap (Value.ref D) = true from rfl)]
  refine T2.at (wpAny_bind (wpAny_attempt (wpAny_holding ?_)))
  unfold callGetattribute
  rw [c0, if_neg Bool.false_ne_true]
  unfold boundAndCalled
  rw [PySem.F.excAttr_ValueError.ga.bind (.ref x)]
  refine wpAny_bind (wpAny_pure ?_)
  show wpAny _ _ (call (.builtin "BaseException.__getattribute__") [.ref x, .str "__class__" t]) _ _ _
  refine wpAny_call (codeAny_call_builtin PySem.F.excAttr_ValueError.ga.plain PySem.F.entry_bexc_ga ?_)
  refine @check_slot (model prog w) _ _ ⟨hp, g, dr, t + 1, os⟩ "BaseException.__getattribute__" "BaseException" "__getattribute__" (.ref x) [.str "__class__" t] [] _ (by decide +kernel) (by decide +kernel) isx (PySem.F.args_bexc_ga (.ref x) (.str "__class__" t)) ?_
  unfold Builtin.«object.__getattribute__»
  refine wpAny_bind (wpAny_of_eq (a := ((Value.ref x : Value), [Value.str "__class__" t])) (by first | rfl | (simp only [slotArgs]; rfl)) ?_)
  refine wpAny_bind (wpAny_pure (wpAny_bind (T0.at (wpAny_bind (T3.at ?_)))))
  show wpAny _ _ (holding [Value.builtin "object.__class__"] (call (.builtin "getset_descriptor.__get__") [.builtin "object.__class__", .ref x, .ref D]) >>= ret) _ _ _
  refine wpAny_bind (wpAny_holding (wpAny_call (class_get (s := ⟨hp, g, dr, t + 1, os⟩) (ox := ox) (od := od) X I C.hm (wpAny_pure ?_))))
  show wpAny _ _ (handedOut (.ref D)) _ _ _
  rw [handedOut_of (v := .ref D) rfl]
  first
    | exact wpAny_pure (wpAny_pure h)
    | exact wpAny_pure h
    | exact wpAny_pure (wpAny_bind (wpAny_pure (wpAny_pure h)))
theorem dl_kit {K : Frag} {D x : Addr} {ox : Obj} {od : Option Obj} (C : L2.ExcC K D) : KitX K (.ref x) (.ref D) (fun h => InstAt h x ox D od) where
  ty := fun _ _ _ I => I.type
  it := fun _ _ X _ => by
    obtain ⟨cd, hc, _⟩ := any_some C.hd
    unfold clsIn at hc
    split at hc
    · rename_i ho
      intro A' Q' E' s' k q
      unfold isType loadHead
      exact wpAny_bind (wpAny_loadPart (k _ _ (X _ _ ho)) (wpAny_pure q))
    · cases hc
  ne := fun h tp dd its n sl X htp => by
    obtain ⟨cd, hc, _⟩ := any_some C.hd
    refine Bool.eq_false_iff.mpr fun q => ?_
    have e : D = tp := Value.ref.inj (beq_iff_eq.mp q)
    subst e
    unfold clsIn at hc
    split at hc
    · rename_i ho
      have z := (X _ _ ho).symm.trans htp
      cases z
    · cases hc
  ca := fun X I k => dl_class C X I k
end PySem.W
namespace DL
open PySem PySem.Spec PyProof.Rows L2
open Evl (Ex ex_l ex_t fresh_back)
/-! ### attributes -/
/-- a field of an instance, of a kept exception -/
def uFld (K : PySem.W.Frag) (f : Str) : V → Hp → VK → Prop := fun x H Q => (∃ a C dx fs v, x = .ref a ∧ H a = some (.ins C dx fs) ∧ Cls K C ∧ NoAttr K C f ∧ fs.lookup f = some v ∧ Q v H) ∨
  (∃ a C dd fs v, x = .ref a ∧ H a = some (exv a (.ref C) (some dd)) ∧ XfC K C ∧ PySem.W.findIn K (.ref C) f = some none ∧ H dd = some (.xd fs) ∧ fs.lookup f = some v ∧ Q v H)
def tAt (K : PySem.W.Frag) (f : Str) (te : TE) : TE := fun σ H Q => te σ H fun x H1 => uFld K f x H1 Q
section
variable {X : Cx} {K : PySem.W.Frag} {e : Expr} {te : TE} {f : Str} {pos : Pos}
theorem pe_at (hK : X.K = K) (he : PE X e te) (hb : attributeBase e f X.env (eval e X.env) = eval e X.env := by rfl) : PE X (.Attribute e f pos) (tAt K f te) := by
  subst hK
  refine ⟨fun pins s σ H Q I hw => attr_of hb (thn (he.run pins s σ H _ I hw) fun u s1 got => ?_)⟩
  obtain ⟨x, H1, I1, rx, hx⟩ := got
  rcases hx with ⟨a, C, dx, fs, v, rfl, ea, c, n, l, q⟩ | ⟨a, C, dd, fs, v, rfl, ea, T, hno, ed, l, q⟩
  · obtain rfl : u = Value.ref a := rx
    exact getattr_ok I1 ea c n l fun u' s2 I2 ru => ⟨v, H1, I2, ru, q⟩
  · obtain rfl : u = Value.ref a := rx
    have oa : ObjOk X.prog X.w H1 s1.heap a (exv a (.ref C) (some dd)) := I1.hok a _ ea
    obtain ⟨⟨oe, vs, ho, hz, hd⟩, _⟩ := (show (∃ oe vs, s1.heap.get? a = some oe ∧ Zc (.ref C) (some dd) oe ∧ oe.data = .fields vs) ∧ _ from oa)
    obtain ⟨mA, hns, hr⟩ := (show ObjOk X.prog X.w H1 s1.heap dd (.xd fs) from I1.hok dd _ ed)
    obtain ⟨od, hod, hl⟩ := lookIn_ns hns
    obtain ⟨w, hu, ru⟩ := RelO.some_of (v := v) (o := mA f) (by rw [← l]; exact hr f)
    have J : PySem.W.InstAt s1.heap a oe C (some od) := ⟨ho, hz.1, by unfold PySem.W.notCls; rw [hd] <;> rfl, by rw [hz.2]; exact hod⟩
    exact HandSPX.exc_get I1.kIn J T.ga T.gg T.exC (PySem.W.findObj_own T.hdC hno rfl (by rw [hl, hu])) (handed_of ru) ⟨v, H1, I1.tok _, ru, q⟩
end
/-! ### isinstance -/
/-- of all values that TyX knows, of kept exceptions; one class -/
def uIsi (K : PySem.W.Frag) : List V → Hp → VK → Prop := fun xs H Q => rIsi K xs H Q ∨
  (∃ (a D : Addr) (d : Option Addr) (c : V) (u : Value) (b : Bool), xs = [.ref a, c] ∧ ClsV c u ∧ H a = some (exv a (.ref D) d) ∧ (∀ dd, d = some dd → ∃ fs, H dd = some (.xd fs)) ∧ ExcC K D ∧ PySem.W.kitOne K (.ref D) u = some b ∧ Q (.bl b) H)
theorem cu_isiU {X : Cx} {K : PySem.W.Frag} (hK : X.K = K) : CallR X (.builtin "isinstance") (uIsi K) := by
  subst hK
  intro pins s σ H xs us Q I r hw
  rcases hw with hw | ⟨a, D, d, c, cv, b, rfl, hc, ea, hd, C, e, q⟩
  · exact call_isi pins s σ H xs us Q I r hw
  · cases r with
    | cons rx rr =>
      cases rr with
      | cons rt rr =>
        cases rr
        cases rx
        have ec := hc.eq rt
        subst ec
        have oa : ObjOk X.prog X.w H s.heap a (exv a (.ref D) d) := I.hok a _ ea
        obtain ⟨⟨oe, vs, ho, hz, hv⟩, _⟩ := (show (∃ oe vs, s.heap.get? a = some oe ∧ Zc (.ref D) d oe ∧ oe.data = .fields vs) ∧ _ from oa)
        have J : ∃ od, PySem.W.InstAt s.heap a oe D od := by
          cases d with
          | none => exact ⟨none, ho, hz.1, by unfold PySem.W.notCls; rw [hv] <;> rfl, by rw [hz.2]; trivial⟩
          | some dd =>
            obtain ⟨fs, ed⟩ := hd dd rfl
            obtain ⟨mA, hns, hr⟩ := (show ObjOk X.prog X.w H s.heap dd (.xd fs) from I.hok dd _ ed)
            obtain ⟨od, hod, hl⟩ := lookIn_ns hns
            exact ⟨some od, ho, hz.1, by unfold PySem.W.notCls; rw [hv] <;> rfl, by rw [hz.2]; exact hod⟩
        obtain ⟨od, J⟩ := J
        exact PySem.W.kia_one (PySem.W.dl_kit C) I.kIn J e (fun z => nomatch z) fun tk => ⟨.bl b, H, I.kept (t' := tk) fun _ _ z => z, rfl, q⟩
/-! ### the base class's __init__ -/
section
variable {X : Cx} {K : PySem.W.Frag} {e : Expr} {es : List Expr} {ta : TA} {x : Str} {p1 p2 pos : Pos} {G : Addr} {mc : Value}
theorem pe_baseinit {pl : PySem.Sem Bool} (hK : X.K = K) (hg : Gl X x) (hm : X.mg x = some (.ref G)) (rd : PySem.W.readsIn K G mc = true) (ga : PySem.W.specialIn K (.ref G) "__getattribute__" = some (some (.builtin "type.__getattribute__"))) (hv : PySem.W.findCls K (.ref G) mc "__init__" = some (.val (.builtin "ValueError.__init__"))) (ha : PA X (e :: es) ta)
    (hc : eval (.Call (.Attribute (.Name x p1) "__init__" p2) (e :: es) [] pos) X.env = (do
      let ov ← eval (.Name x p1) X.env
      standAt p2.atName
      let (f, first) ← holding [ov] (getMethod ov "__init__" pl)
      callWith pos f first (backTo pos (starEach (e :: es) X.env)) (backToKw pos (keywordEach [] X.env))) := by rfl)
    (he : starEach (e :: es) X.env = (false, eval e X.env) :: starEach es X.env := by rfl) (hpl : (backTo pos (starEach es X.env)).any (·.1) = false := by rfl) (hdb : (x == ("__debug__" : Str)) = false := by decide) :
    PE X (.Call (.Attribute (.Name x p1) "__init__" p2) (e :: es) [] pos) (tVeI K ta) := by
  subst hK
  refine ⟨fun pins s σ H Q I hw => PySem.W.methodCall_KW (ld_glob I hg hm ?_ hdb) hc⟩
  refine PySem.W.method_cls I.kIn ga (PySem.W.cls_value I.kIn rd hv (by decide +kernel) ?_)
  show wpAny _ _ (callWith pos (Value.builtin "ValueError.__init__") [] (backTo pos (starEach (e :: es) X.env)) []) _ _ _
  refine PyProof.Rows.callWith_method1 (thn (ha.run pos pins _ σ H _ (I.tok _) hw) fun us s1 got => ?_) he hpl
  obtain ⟨vs, H1, I1, r1, a, C, ws, ev, hl, T, ea, q⟩ := got
  subst ev
  cases r1 with
  | @cons _ u0 _ ur ra rw' =>
    obtain rfl : u0 = Value.ref a := ra
    refine oinit_ok T I1 ea ?_ fun s' J => ⟨.non, H1, J, rfl, q⟩
    rw [← Paired.length rw', sizeLine_eq]
    omega
end
/-! ### what is told of an exception -/
inductive Out where
  | val (d : Dat) | exc (C : Addr) (fs : List (Str × Dat)) | new (ds : List Dat)
def spO (K : PySem.W.Frag) (R : List Dat → Out → Prop) : Sp := fun vs H Q E => ∃ G ds, Ex G H ∧ DRs K G vs ds ∧
  ((∃ d, R ds (.val d) ∧ ∀ v G' H', Grow G H G' H' → DR K G' v d → Q v H') ∨ (∃ C fs, R ds (.exc C fs) ∧ ∀ dd G' H', Grow G H G' H' → DX K G' dd fs → E (.ref C) dd H') ∨
  (∃ es, R ds (.new es) ∧ ∀ p vs G' H', Grow G H G' H' → H p = none → G' p = none → H' p = some (.lst vs) → DRs K G' vs es → Q (.ref p) H'))
/-- an expression raises -/
def SemX (K : PySem.W.Frag) (W : WX) (t : TE) (ρ : List Sl) (C : Addr) (fs : List (Str × Dat)) : Prop :=
  ∀ G0 B0 σ G H, Sat K G0 B0 ρ σ G H → ∀ Q : VK, (∀ dd G' H', Grow G H G' H' → DX K G' dd fs → W (.ref C) dd σ H') → t σ H Q
def SemXA (K : PySem.W.Frag) (W : WX) (t : TA) (ρ : List Sl) (C : Addr) (fs : List (Str × Dat)) : Prop :=
  ∀ G0 B0 σ G H, Sat K G0 B0 ρ σ G H → ∀ Q : List V → Hp → Prop, (∀ dd G' H', Grow G H G' H' → DX K G' dd fs → W (.ref C) dd σ H') → t σ H Q
/-- a def of the module that may raise -/
structure GX (P : Program) (w : World) (K : PySem.W.Frag) (mg : Str → Option Value) (base : Heap) (k : Nat) (x : Str) (ps : List Str) (sp : Sp) : Prop where
  ex : ∃ f fd, FnOk P w K mg base (L2.CX P w) k f fd ps sp ∧ mg x = some (.ref f) ∧ PySem.W.keepIn K (.ref f) = true ∧ Binds K fd ps []
theorem GX.mono {P : Program} {w : World} {K : PySem.W.Frag} {mg : Str → Option Value} {base : Heap} {j k : Nat} {x : Str} {ps : List Str} {sp : Sp} (h : GX P w K mg base j x ps sp) (hj : j ≤ k) : GX P w K mg base k x ps sp := by
  obtain ⟨f, fd, F, r⟩ := h.ex
  exact ⟨f, fd, F.mono hj, r⟩
section
variable {X : Cx} {x : Str} {p pos : Pos} {e : Expr} {es : List Expr} {t : TA} {k : Nat} {ps : List Str} {sp : Sp} {W : WX}
/-- called where what it raises is wished for -/
theorem pe_gx (h : GX X.prog X.w X.K X.mg X.base k x ps sp) (tk : Takes X W) (hr : Room k X.A) (hg : Gl X x) (ha : PA X (e :: es) t) (hdb : (x == ("__debug__" : Str)) = false := by decide)
    (he : starEach (e :: es) X.env = (false, eval e X.env) :: starEach es X.env := by rfl) (hpl : (backTo pos (starEach es X.env)).any (·.1) = false := by rfl) : PE X (.Call (.Name x p) (e :: es) [] pos) (tCallSD sp [] (WE W) t) := by
  obtain ⟨f, fd, F, hm, hk, hb⟩ := h.ex
  exact pe_callSD F hr hg hm hk hb .nil (fun σ => passAt tk σ) ha hdb he hpl
/-- called where it raises nothing -/
theorem pe_gx0 (h : GX X.prog X.w X.K X.mg X.base k x ps sp) (hr : Room k X.A) (hg : Gl X x) (ha : PA X (e :: es) t) (hdb : (x == ("__debug__" : Str)) = false := by decide)
    (he : starEach (e :: es) X.env = (false, eval e X.env) :: starEach es X.env := by rfl) (hpl : (backTo pos (starEach es X.env)).any (·.1) = false := by rfl) : PE X (.Call (.Name x p) (e :: es) [] pos) (tCall sp [] E0 t) := by
  obtain ⟨f, fd, F, hm, hk, hb⟩ := h.ex
  exact pe_call F hr hg hm hk hb .nil passL ha hdb he hpl
end
section
variable {K : PySem.W.Frag} {ρ : List Sl} {t ta tb tc te : TE} {a b c d : Dat} {W : WX} {P : Post} {C : Addr} {fs : List (Str × Dat)}
theorem s_callO {R : List Dat → Out → Prop} {E : L2.St → XK} {u : TA} {ds : List Dat} (h : SemA K u ρ ds) (hr : R ds (.val c)) : Sem K (tCallSD (spO K R) [] E u) ρ c := fun G0 B0 σ G H S Q q =>
  h _ _ _ _ _ S _ fun xs G1 H1 g1 rs => ⟨G1, ds, g1.s, by rw [List.append_nil]; exact rs, .inl ⟨c, hr, fun v G2 H2 g2 rv => q v G2 H2 (g1.trans g2) rv⟩⟩
theorem s_callO0 {R : List Dat → Out → Prop} {E : XK} {u : TA} {ds : List Dat} (h : SemA K u ρ ds) (hr : R ds (.val c)) : Sem K (tCall (spO K R) [] E u) ρ c := fun G0 B0 σ G H S Q q =>
  h _ _ _ _ _ S _ fun xs G1 H1 g1 rs => ⟨G1, ds, g1.s, by rw [List.append_nil]; exact rs, .inl ⟨c, hr, fun v G2 H2 g2 rv => q v G2 H2 (g1.trans g2) rv⟩⟩
/-- what is called tells a new list -/
theorem sn_callO {R : List Dat → Out → Prop} {E : L2.St → XK} {u : TA} {ds es : List Dat} (h : SemA K u ρ ds) (hr : R ds (.new es)) : SemN K (tCallSD (spO K R) [] E u) ρ es := fun G0 B0 σ G H S Q q =>
  h _ _ _ _ _ S _ fun xs G1 H1 g1 rs => ⟨G1, ds, g1.s, by rw [List.append_nil]; exact rs, .inr (.inr ⟨es, hr, fun p vs G2 H2 g2 hp hg h2 rv => q p vs G2 H2 (g1.trans g2) (fresh_back g1.h hp) hg h2 rv⟩)⟩
theorem sn_callO0 {R : List Dat → Out → Prop} {E : XK} {u : TA} {ds es : List Dat} (h : SemA K u ρ ds) (hr : R ds (.new es)) : SemN K (tCall (spO K R) [] E u) ρ es := fun G0 B0 σ G H S Q q =>
  h _ _ _ _ _ S _ fun xs G1 H1 g1 rs => ⟨G1, ds, g1.s, by rw [List.append_nil]; exact rs, .inr (.inr ⟨es, hr, fun p vs G2 H2 g2 hp hg h2 rv => q p vs G2 H2 (g1.trans g2) (fresh_back g1.h hp) hg h2 rv⟩)⟩
theorem sx_call {R : List Dat → Out → Prop} {u : TA} {ds : List Dat} (h : SemA K u ρ ds) (hr : R ds (.exc C fs)) : SemX K W (tCallSD (spO K R) [] (WE W) u) ρ C fs := fun G0 B0 σ G H S Q q =>
  h _ _ _ _ _ S _ fun xs G1 H1 g1 rs => ⟨G1, ds, g1.s, by rw [List.append_nil]; exact rs, .inr (.inl ⟨C, fs, hr, fun dd G2 H2 g2 rv => q dd G2 H2 (g1.trans g2) rv⟩)⟩
theorem sx_asg {g : TG} (h : SemX K W te ρ C fs) (p : P.ex C fs ρ) : SemS K W (tAsg te g) ρ P := fun G0 B0 σ G H D S n r b ct x => h _ _ _ _ _ S _ fun dd G1 H1 g1 hx => x _ _ _ _ _ _ _ p (S.grow g1) hx
theorem sx_drop (h : SemX K W te ρ C fs) (p : P.ex C fs ρ) : SemS K W (tDrop te) ρ P := fun G0 B0 σ G H D S n r b ct x => h _ _ _ _ _ S _ fun dd G1 H1 g1 hx => x _ _ _ _ _ _ _ p (S.grow g1) hx
theorem sx_ret (h : SemX K W te ρ C fs) (p : P.ex C fs ρ) : SemS K W (tRet te) ρ P := fun G0 B0 σ G H D S n r b ct x => h _ _ _ _ _ S _ fun dd G1 H1 g1 hx => x _ _ _ _ _ _ _ p (S.grow g1) hx
/-! raise -/
/-- raise X(..): t makes the exception -/
def tRaisE (t : L2.St → Hp → XK → Prop) (W : WX) : TS := fun _ σ H => t σ H fun cls d H' => W cls d σ H'
/-- X('..'), X without an __init__ of its own -/
def tMk0 (C : Addr) : L2.St → Hp → XK → Prop := fun _ H Q => Q (.ref C) none H
theorem sr_own (p : P.ex C [] ρ) : SemS K W (tRaisE (tMk0 C) W) ρ P := fun G0 B0 σ G H D S n r b ct x => x _ _ _ _ _ _ _ p S .no
/-- the promise of an exception's __init__: fl tells the fields of what is handed in -/
def spIni (K : PySem.W.Frag) (C : Addr) (ok : List V → Prop) (fl : List V → List (Str × V)) : Sp := fun vs H Q _ => ∃ a ws, vs = .ref a :: ws ∧ ok ws ∧ H a = some (exo a C none) ∧
  ∀ d, H d = none → d ≠ a → Q .non (upd (upd H d (exd d (fl ws))) a (exo a C (some d)))
/-- the fields by data: the names in order, the data -/
theorem sr_ini {ta : TA} {ok : List V → Prop} {fl : List V → List (Str × V)} {ds : List Dat} (h : SemA K ta ρ ds) (hl : ds.length ≤ 900) (hok : ∀ G vs, DRs K G vs ds → ok vs) (hfl : ∀ G vs, DRs K G vs ds → DRf K G (fl vs) fs) (p : P.ex C fs ρ) :
    SemS K W (tRaisE (tMkO C (spIni K C ok fl) [] ta) W) ρ P := fun G0 B0 σ G H D S n r b ct x =>
  h _ _ _ _ _ S _ fun vs G1 H1 g1 rs => by
    have S1 := S.grow g1
    refine ⟨by rw [rs.length]; omega, fun a0 ha0 => ?_⟩
    rw [List.append_nil]
    refine ⟨a0, vs, rfl, hok _ _ rs, upd_same, fun d hd hda => ?_⟩
    have hd1 : H1 d = none := by rw [upd_ne hda] at hd; exact hd
    refine ⟨rfl, d, fl vs, upd_same, ?_, hd1, ?_⟩
    · rw [upd_ne hda, upd_same]
    · have e : upd (del (upd (upd (upd H1 a0 (exo a0 C none)) d (exd d (fl vs))) a0 (exo a0 C (some d))) a0) d (.xd (fl vs)) = upd H1 d (.xd (fl vs)) := by
        funext z
        by_cases z1 : z = d
        · subst z1; rw [upd_same, upd_same]
        · rw [upd_ne z1, upd_ne z1]
          by_cases z2 : z = a0
          · subst z2; rw [del_same]; exact ha0.symm
          · rw [del_ne z2, upd_ne z2, upd_ne z1, upd_ne z2]
      rw [e]
      have gn : Grow G1 H1 (upd G1 d (.xd (fl vs))) (upd H1 d (.xd (fl vs))) := Grow.new g1.s hd1
      exact x _ _ _ _ _ _ _ p (S1.grow gn) (.fs upd_same (hfl _ _ (rs.mono gn.g)))
/-! try -/
theorem ss_try {cv : Value} {i : Nat} {tb : WX → TS} {ts : TS} (hb : ∀ W', SemS K W' (tb W') ρ { P with ex := fun C fs ρ' =>
      (PySem.W.exmOne K (.ref C) cv = some true ∧ SemS K (fun _ _ _ _ => False) ts (ρ'.set i (.dat (.exc C fs))) { nx := fun ρ2 => P.nx (ρ2.set i .no), rt := P.rt, rn := P.rn, bk := fun ρ2 => P.bk (ρ2.set i .no), ct := fun ρ2 => P.ct (ρ2.set i .no) }) ∨
      (PySem.W.exmOne K (.ref C) cv = some false ∧ P.ex C fs ρ') }) : SemS K W (tTry K cv i tb ts W) ρ P := fun G0 B0 σ G H D S n r b ct x => by
  refine hb _ G0 B0 σ G H D S n r b ct fun C fs dd ρ' σ' G' H' hp S' hx => ?_
  rcases hp with ⟨he, hs⟩ | ⟨he, hp⟩
  · refine ⟨true, he, fun _ a0 ha0 => ?_, fun z => by cases z⟩
    have gn : Grow G' H' (upd G' a0 (exv a0 (.ref C) dd)) (upd H' a0 (exv a0 (.ref C) dd)) := Grow.new S'.gr.s ha0
    have rd : DR K (upd G' a0 (exv a0 (.ref C) dd)) (.ref a0) (.exc C fs) := by
      cases hx with
      | no => exact .exc0 upd_same
      | fs h1 h2 => exact .exc1 upd_same (gn.g _ _ h1) (h2.mono gn.g)
    exact hs G0 B0 _ _ _ _ ((S'.grow gn).set rd) (fun ρ2 σ2 G2 H2 p S2 => n _ _ _ _ p S2.forget) r (fun ρ2 σ2 G2 H2 p S2 => b _ _ _ _ p S2.forget) (fun ρ2 σ2 G2 H2 p S2 => ct _ _ _ _ p S2.forget) (fun _ _ _ _ _ _ _ h _ _ => h.elim)
  · exact ⟨false, he, (fun z => by cases z), fun _ => x _ _ _ _ _ _ _ hp S' hx⟩
/-! fields, isinstance by data -/
theorem s_fldE {n : Str} (h : Sem K te ρ (.exc C fs)) (T : XfC K C) (hno : PySem.W.findIn K (.ref C) n = some none) (hl : fs.lookup n = some d) : Sem K (tAt K n te) ρ d := fun G0 B0 σ G H S Q q =>
  h _ _ _ _ _ S _ fun x G1 H1 g1 rx => by
    cases rx with
    | exc0 h0 => cases hl
    | exc1 h1 h2 r =>
      obtain ⟨v, l, rv⟩ := r.lookup hl
      exact .inr ⟨_, _, _, _, v, rfl, g1.s _ _ h1, T, hno, g1.s _ _ h2, l, q _ _ _ g1 rv⟩
theorem s_fldI {n : Str} {gs : List (Str × Dat)} (h : Sem K te ρ (.ins C gs)) (c : Cls K C) (hn : NoAttr K C n) (hl : gs.lookup n = some d) : Sem K (tAt K n te) ρ d := fun G0 B0 σ G H S Q q =>
  h _ _ _ _ _ S _ fun x G1 H1 g1 rx => by
    cases rx with
    | ins h1 r =>
      obtain ⟨v, l, rv⟩ := r.lookup hl
      exact .inl ⟨_, _, _, _, v, rfl, g1.s _ _ h1, c, hn, l, q _ _ _ g1 rv⟩
theorem cs_isiU {n t : String} {k : Bool} (h : tyD d = some t) (hk : kitB t n = some k) : CallS K (uIsi K) [d, .ty n] (.bl k) := fun xs G H e r Q q => .inl (cs_isi h hk xs G H e r Q q)
/-- what isinstance(x, C) must know of the class of x -/
structure InsC (K : PySem.W.Frag) (C : Addr) : Prop where
  cl : Cls K C
  ha : PySem.W.findIn K (.ref C) "__class__" = some (some (.builtin "object.__class__"))
  hn : PySem.W.specialIn K (.builtin "object.__class__") "__get__" = some (some (.builtin "getset_descriptor.__get__"))
  ht : PySem.W.takesIn K (.builtin "object.__class__") = some true
  hm : PySem.W.mroIn K C (.type "object") = some true
theorem cs_isiE {cc : Dat} {cv : V} {u : Value} {k : Bool} (hc : ∀ G x, DR K G x cc → x = cv) (hu : ClsV cv u) (T : ExcC K C) (hk : PySem.W.kitOne K (.ref C) u = some k) : CallS K (uIsi K) [.exc C fs, cc] (.bl k) := fun xs G H e r Q q => by
  cases r with
  | cons h1 r =>
    cases r with
    | cons h2 r =>
      cases r
      have ec := hc _ _ h2
      subst ec
      cases h1 with
      | exc0 h0 => exact .inr ⟨_, _, _, _, _, k, rfl, hu, e _ _ h0, (fun dd z => by cases z), T, hk, q _ _ _ (Grow.refl e) (.bl k)⟩
      | exc1 ha hb r => exact .inr ⟨_, _, _, _, _, k, rfl, hu, e _ _ ha, (fun dd z => by cases z; exact ⟨_, e _ _ hb⟩), T, hk, q _ _ _ (Grow.refl e) (.bl k)⟩
theorem cs_isiI {gs : List (Str × Dat)} {cc : Dat} {cv : V} {u : Value} {k : Bool} (hc : ∀ G x, DR K G x cc → x = cv) (hu : ClsV cv u) (T : InsC K C) (hk : PySem.W.kitOne K (.ref C) u = some k) : CallS K (uIsi K) [.ins C gs, cc] (.bl k) := fun xs G H e r Q q => by
  cases r with
  | cons h1 r =>
    cases r with
    | cons h2 r =>
      cases r
      have ec := hc _ _ h2
      subst ec
      cases h1 with
      | ins ha r => exact .inl ⟨_, _, _, _, k, rfl, hu, .base (.ins (e _ _ ha) T.cl T.ha T.hn T.ht T.hm), hk, q _ _ _ (Grow.refl e) (.bl k)⟩
/-- a thing of a built-in class, asked for an own one -/
theorem cs_isiB {t : String} {cc : Dat} {cv : V} {u : Value} {k : Bool} (h : tyD d = some t) (hc : ∀ G x, DR K G x cc → x = cv) (hu : ClsV cv u) (hk : PySem.W.kitOne K (.type t) u = some k) : CallS K (uIsi K) [d, cc] (.bl k) := fun xs G H e r Q q => by
  cases r with
  | cons h1 r =>
    cases r with
    | cons h2 r =>
      cases r
      have ec := hc _ _ h2
      subst ec
      exact .inl ⟨_, _, _, _, k, rfl, hu, (h1.mono e).ty' h, hk, q _ _ _ (Grow.refl e) (.bl k)⟩
end
/-! ### defs that may raise -/
def PO : Out → Post
  | .val d => { nx := fun _ => d = .non, rt := fun d' => d' = d }
  | .exc C fs => { nx := fun _ => False, ex := fun C' fs' _ => C' = C ∧ fs' = fs }
  | .new ds => { nx := fun _ => False, rn := fun ds' => ds' = ds }
section
variable {P : Program} {w : World} {K : PySem.W.Frag} {mg : Str → Option Value} {base : Heap}
theorem fn_dx {x qual : Str} {st : Stmt} {f : Addr} {fd : FuncData} {N ps : List Str} {k : Nat} {R : List Dat → Out → Prop} {T : WX → TS} (F : Fun K x qual st f fd) (S : FnScope N ps (defScope st))
    (hlen : ∀ ds o, R ds o → ds.length = ps.length)
    (hp : ∀ (cdv : Value) (A : Around) (outer : List Env) (s : Shared) (H : Hp) (E : XK), Room k (A.deeper (envOfC qual (defScope st) s.heap.objs.size f cdv)) → PSs (cxOf (L2.CX P w) P w K mg base N qual (defScope st) f cdv A outer s H E) (defBody st) (T fun cls d _ H => E cls d H))
    (hs : ∀ W ds o, R ds o → SemS K W (T W) (slots N.length ds) (PO o)) : FnOk P w K mg base (L2.CX P w) (k + 1) f fd ps (spO K R) := by
  refine F.okX S (fun vs H Q E h => ?_) (fun cdv A outer s H vs Q E hr h => ?_)
  · obtain ⟨G, ds, e, r, ⟨d, hR, q⟩ | ⟨C, fs, hR, q⟩ | ⟨es, hR, q⟩⟩ := h
    · rw [r.length]; exact hlen ds _ hR
    · rw [r.length]; exact hlen ds _ hR
    · rw [r.length]; exact hlen ds _ hR
  · obtain ⟨G, ds, e, r, ⟨d, hR, q⟩ | ⟨C, fs, hR, q⟩ | ⟨es, hR, q⟩⟩ := h
    · refine ⟨_, hp cdv A outer s H E hr, hs _ ds _ hR G H _ G H _ (sat_start e r) (fun ρ' σ' G' H' h S' => ?_) ⟨fun d' v G' H' h g rv => ?_, fun _ _ _ _ _ h _ _ _ _ _ => h.elim⟩ (fun _ _ _ _ h _ => h.elim) (fun _ _ _ _ h _ => h.elim) (fun _ _ _ _ _ _ _ h _ _ => h.elim)⟩
      · cases h
        exact q _ _ _ S'.gr .non
      · cases h
        exact q _ _ _ g rv
    · refine ⟨_, hp cdv A outer s H E hr, hs _ ds _ hR G H _ G H _ (sat_start e r) (fun ρ' σ' G' H' h S' => h.elim) ⟨fun d' v G' H' h g rv => h.elim, fun _ _ _ _ _ h _ _ _ _ _ => h.elim⟩ (fun _ _ _ _ h _ => h.elim) (fun _ _ _ _ h _ => h.elim) (fun C' fs' dd ρ' σ' G' H' h S' hx => ?_)⟩
      obtain ⟨rfl, rfl⟩ := h
      exact q _ _ _ S'.gr hx
    · refine ⟨_, hp cdv A outer s H E hr, hs _ ds _ hR G H _ G H _ (sat_start e r) (fun ρ' σ' G' H' h S' => h.elim) ⟨fun d' v G' H' h g rv => h.elim, fun ds' p vs G' H' h g k1 k2 k3 k4 => ?_⟩ (fun _ _ _ _ h _ => h.elim) (fun _ _ _ _ h _ => h.elim) (fun _ _ _ _ _ _ _ h _ _ => h.elim)⟩
      cases h
      exact q _ _ _ _ g k1 k2 k3 k4
theorem gx_of {x qual : Str} {st : Stmt} {f : Addr} {fd : FuncData} {N ps : List Str} {k : Nat} {R : List Dat → Out → Prop} {T : WX → TS} (F : Fun K x qual st f fd) (hm : mg x = some (.ref f)) (hb : Binds K fd ps []) (S : FnScope N ps (defScope st))
    (hlen : ∀ ds o, R ds o → ds.length = ps.length)
    (hp : ∀ (cdv : Value) (A : Around) (outer : List Env) (s : Shared) (H : Hp) (E : XK), Room k (A.deeper (envOfC qual (defScope st) s.heap.objs.size f cdv)) → PSs (cxOf (L2.CX P w) P w K mg base N qual (defScope st) f cdv A outer s H E) (defBody st) (T fun cls d _ H => E cls d H))
    (hs : ∀ W ds o, R ds o → SemS K W (T W) (slots N.length ds) (PO o)) : GX P w K mg base (k + 1) x ps (spO K R) :=
  ⟨f, fd, fn_dx F S hlen hp hs, hm, F.kp, hb⟩
end
end DL
namespace DL
open PySem PySem.Spec PyProof.Rows L2
open Evl (Ex ex_l ex_t fresh_back)
/-! ### an exception class with an __init__ of its own, as the defs want it -/
structure XI (P : Program) (w : World) (K : PySem.W.Frag) (mg : Str → Option Value) (base : Heap) (k : Nat) (x : Str) (C : Addr) (sp : Sp) : Prop where
  T : OexC K C
  m : mg x = some (.ref C)
  ex : ∃ fI fd ps, PySem.W.findIn K (.ref C) "__init__" = some (some (.ref fI)) ∧ PySem.W.typeIn K (.ref fI) = some (.type "function") ∧ FnOk P w K mg base CX0 k fI fd ps sp ∧ Binds K fd ps []
theorem pmk_xi {X : Cx} {x : Str} {C : Addr} {k : Nat} {sp : Sp} {e : Expr} {es : List Expr} {ta : TA} {p pos : Pos} (h : XI X.prog X.w X.K X.mg X.base k x C sp) (hr : Room (k + 1) X.A) (hg : Gl X x) (ha : PA X (e :: es) ta)
    (hdb : (x == ("__debug__" : Str)) = false := by decide) (he : starEach (e :: es) X.env = (false, eval e X.env) :: starEach es X.env := by rfl) (hpl : (backTo pos (starEach es X.env)).any (·.1) = false := by rfl) :
    PMk X (.Call (.Name x p) (e :: es) [] pos) (tMkO C sp [] ta) := by
  obtain ⟨fI, fd, ps, iC, tI, F1, hb⟩ := h.ex
  exact pmk_oex h.T iC tI F1 hr hb .nil pass0 hg h.m ha hdb he hpl
/-- GrammarError.__init__(self, msg); self.f = v -/
def tIni1 (K : PySem.W.Frag) (f : Str) (tm : TE) : TS := tSeq (tDrop (tVeI K (tCons (tVar 0) (tCons tm tNil)))) (tOst K f (tVar 0) (tVar 1))
theorem ini1 {K : PySem.W.Frag} {C : Addr} {f : Str} {tm : TE} {ok : List V → Prop} {N : List Str} (T : OexC K C) (hno : PySem.W.findIn K (.ref C) f = some none) (ho : ∀ ws, ok ws → ∃ v, ws = [v])
    (hm : ∀ (σ : L2.St) (H : Hp) (v : V) (Q : VK), ok [v] → σ[1]? = some (some v) → (∀ z, Q z H) → tm σ H Q) (vs : List V) (H : Hp) (Q : VK) (E : XK) (h : spIni K C ok (fun ws => [(f, ws.headD .non)]) vs H Q E) :
    tIni1 K f tm { nx := fun _ H' => Q .non H', rt := Q } (L2.start N vs) H := by
  obtain ⟨a, ws, rfl, hw, ha, q⟩ := h
  obtain ⟨v, rfl⟩ := ho ws hw
  refine ⟨.ref a, rfl, hm _ _ v _ hw rfl fun z => ⟨a, C, [z], rfl, (by show 1 ≤ 1000; decide), T, ha, ?_⟩⟩
  exact ⟨v, rfl, .ref a, rfl, a, C, rfl, T, hno, .inl ⟨ha, fun dx hd hda => q dx hd hda⟩⟩
/-! ### str(..), strip(..), methods with more arguments -/
def uStr : List V → Hp → VK → Prop := fun xs H Q => (∃ i : Int, xs = [.int i] ∧ i.natAbs.log2 < 1920 ∧ Q (.str (toString i)) H) ∨ (∃ a, xs = [.str a] ∧ Q (.str a) H)
theorem cu_str {X : Cx} : CallR X (.type "str") uStr := by
  intro pins s σ H xs us Q I r h
  rcases h with h | ⟨a, rfl, q⟩
  · exact call_str_int pins s σ H xs us Q I r h
  · obtain ⟨u, rfl, t, rfl⟩ := vals1 r
    exact PySem.P.str_of_str ⟨.str a, H, I, ⟨_, rfl⟩, q⟩
def numT (i : Int) : List Nat := (Str.ofString (toString i)).cps.toList
theorem numT_len {i : Int} (h : i.natAbs.log2 < 1920) : (numT i).length ≤ 1921 := by
  have := int_text_len_1921 h
  simpa [numT, Str.length] using this
def uStripC : V → List V → Hp → VK → Prop := fun x xs H Q => ∃ a b, x = .str a ∧ xs = [.str b] ∧ a.length ≤ sizeLine ∧ Q (.str (Txt.stripChars a b)) H
section
variable {X : Cx} {K : PySem.W.Frag} {o e e1 e2 : Expr} {es : List Expr} {to te : TE} {ta : TA} {apos pos : Pos}
theorem pe_ustrip (ho : PE X o to) (he : PE X e te) (hs : starEach [e] X.env = [(false, eval e X.env)] := by rfl) (hbase : attributeBase o "strip" X.env (eval o X.env) = eval o X.env := by rfl) (hline : (apos.endLine == pos.line) = true := by rfl) :
    PE X (.Call (.Attribute o "strip" apos) [e] [] pos) (tM1 uStripC to te) := pe_m1 F.slot_str_strip F.type_str_strip mt_stripChars ho he hs hbase hline
end
section
variable {K : PySem.W.Frag} {ρ : List Sl} {te : TE} {c : Dat}
theorem cs_strI {i : Int} (h : i.natAbs.log2 < 1920) : CallS K uStr [.int i] (.txt (numT i)) := fun xs G H e r Q q => by
  cases r with
  | cons h1 r =>
    cases r; cases h1
    exact .inl ⟨i, rfl, h, q _ _ _ (Grow.refl e) (.ofStr _)⟩
theorem cs_strT {t : List Nat} : CallS K uStr [.txt t] (.txt t) := fun xs G H e r Q q => by
  cases r with
  | cons h1 r =>
    cases r; cases h1
    exact .inr ⟨_, rfl, q _ _ _ (Grow.refl e) (.txt _)⟩
theorem s_bmT {r : V → List V → Hp → VK → Prop} {cs : List Nat} {u : TA} {ds : List Dat} (h : Sem K te ρ (.txt cs)) (h1 : SemA K u ρ ds) (hr : MtS K r (.txt cs) ds c) : Sem K (tBM K "str" r te u) ρ c := fun G0 B0 σ G H S Q q =>
  h _ _ _ _ _ S _ fun x G1 H1 g1 rx => ⟨by cases rx; rfl, h1 _ _ _ _ _ (S.grow g1) _ fun ys G2 H2 g2 ry =>
    hr x ys G2 H2 g2.s (rx.mono g2.g) ry Q fun v G3 H3 g3 rv => q v G3 H3 ((g1.trans g2).trans g3) rv⟩
theorem s_cls {C : Addr} : Sem K (tC (.ref C)) ρ (.cls C) := s_c fun _ => .cls C
theorem ms_strip {a b : List Nat} (h : a.length ≤ sizeLine) : MtS K uStripC (.txt a) [.txt b] (.txt (Txt.stripChars (strL a) (strL b)).cps.toList) := fun x xs G H e rx rs Q q => by
  cases rx
  cases rs with
  | cons h1 r =>
    cases r; cases h1
    exact ⟨_, _, rfl, rfl, by rw [← strL, strL_len]; exact h, q _ _ _ (Grow.refl e) (.ofStr _)⟩
theorem ms_starts3 {a b : List Nat} {i : Int} : MtS K uStarts3 (.txt a) [.txt b, .int i] (.bl (Txt.startswith3 (strL a) (strL b) i)) := fun x xs G H e rx rs Q q => by
  cases rx
  cases rs with
  | cons h1 r =>
    cases r with
    | cons h2 r =>
      cases r; cases h1; cases h2
      exact ⟨_, _, _, rfl, rfl, q _ _ _ (Grow.refl e) (.bl _)⟩
theorem ms_find3 {a b : List Nat} {i : Int} : MtS K uFind3 (.txt a) [.txt b, .int i] (.int (Txt.find3 (strL a) (strL b) i)) := fun x xs G H e rx rs Q q => by
  cases rx
  cases rs with
  | cons h1 r =>
    cases r with
    | cons h2 r =>
      cases r; cases h1; cases h2
      exact ⟨_, _, _, rfl, rfl, q _ _ _ (Grow.refl e) (.int _)⟩
end
end DL
namespace DL
open PySem PySem.Spec PyProof.Rows L2
/-- a try around which nothing is wished -/
theorem ss_tryF {K : PySem.W.Frag} {ρ : List Sl} {W : WX} {P : Post} {cv : Value} {i : Nat} {tb : WX → TS} {ts : TS} (hb : ∀ W', SemS K W' (tb W') ρ { P with ex := fun C fs ρ' =>
      (PySem.W.exmOne K (.ref C) cv = some true ∧ SemS K (fun _ _ _ _ => False) ts (ρ'.set i (.dat (.exc C fs))) { nx := fun ρ2 => P.nx (ρ2.set i .no), rt := P.rt, rn := P.rn, bk := fun ρ2 => P.bk (ρ2.set i .no), ct := fun ρ2 => P.ct (ρ2.set i .no) }) ∨ False }) :
    SemS K W (tTry K cv i tb ts (fun _ _ _ _ => False)) ρ P := fun G0 B0 σ G H D S n r b ct x => by
  have h := ss_try (K := K) (W := fun _ _ _ _ => False) (ρ := ρ) (P := { P with ex := fun _ _ _ => False }) (cv := cv) (i := i) (tb := tb) (ts := ts) fun W' => ss_mono (hb W') (fun _ z => z) (fun _ z => z) (fun _ z => z) (fun _ z => z) fun C fs ρ' z => by
    rcases z with z | z
    · exact .inl z
    · exact z.elim
  exact h G0 B0 σ G H D S n r b ct fun _ _ _ _ _ _ _ z _ _ => z.elim
end DL

set_option Elab.async false
set_option linter.all false
set_option maxRecDepth 100000
set_option maxHeartbeats 1000000
/-! DLg: one's own list looked at, zip, enumerate, list(..), tuple(..), max(..) of data -/
namespace DL
open PySem PySem.Spec PyProof.Rows L2
open Evl (Ex ex_l ex_t fresh_back)
open PySem.W (AlikeAll maxD dataLt max_list_data alike alikeAll)
/-! ### one's own list is looked at: what comes of it is no object -/
def scalD : Dat → Bool
  | .non | .bl _ | .int _ | .txt _ | .ty _ => true
  | _ => false
theorem DR.scal {K : PySem.W.Frag} {G G' : Hp} {v : V} {d : Dat} (h : scalD d = true) (r : DR K G v d) : DR K G' v d := by
  cases r with
  | non => exact .non
  | bl b => exact .bl b
  | int i => exact .int i
  | txt cs => exact .txt cs
  | ty n => exact .ty n
  | _ => cases h
section
variable {K : PySem.W.Frag} {ρ : List Sl} {t ta tb tc te : TE} {a b c d : Dat}
theorem Sat.peek {G0 B0 G H : Hp} {σ : L2.St} {i : Nat} {ds : List Dat} (S : Sat K G0 B0 ρ σ G H) (hi : ρ[i]? = some (.own ds)) :
    ∃ G1 B1, Sat K G1 B1 (ρ.set i (.dat (.lst ds))) σ G1 H ∧ ∀ G2 H2, Grow G1 H G2 H2 → ∃ G3, Grow G H G3 H2 ∧ (∀ a, G1 a = none → G3 a = G2 a) := by
  obtain ⟨p, vs, k1, k2, k3, k4, k5⟩ := S.own i ds hi
  refine ⟨upd G p (.lst vs), upd B0 p (.lst vs), ?_, fun G2 H2 g => ⟨del G2 p, ⟨fun x o h => ?_, fun x o h => ?_, g.h, fun x h1 h2 => ?_⟩, fun x h1 => ?_⟩⟩
  · have e1 : Ex (upd G p (.lst vs)) H := fun x o h => by
      by_cases q : x = p
      · subst q; rw [upd_same] at h; cases h; exact k4
      · rw [upd_ne q] at h; exact S.gr.s x o h
    have e2 : Ex (upd B0 p (.lst vs)) H := fun x o h => by
      by_cases q : x = p
      · subst q; rw [upd_same] at h; cases h; exact k4
      · rw [upd_ne q] at h; exact S.gr.h x o h
    have eg : Ex G (upd G p (.lst vs)) := Evl.Ex.new k2
    have key : ∀ (j : Nat) (s : Sl), (ρ.set i (.dat (.lst ds)))[j]? = some s → (i = j ∧ s = .dat (.lst ds)) ∨ (i ≠ j ∧ ρ[j]? = some s) := fun j s h => by
      by_cases q : i = j
      · subst q
        rw [List.getElem?_set_self', hi] at h
        exact .inl ⟨rfl, (Option.some.inj h).symm⟩
      · rw [List.getElem?_set_ne q] at h
        exact .inr ⟨q, h⟩
    refine ⟨⟨Evl.Ex.refl _, e1, e2, fun x h _ => h⟩, by rw [List.length_set]; exact S.len, fun j e h => ?_, fun j es h => ?_, fun j k a b p' h1 h2 h3 h4 => ?_⟩
    · rcases key j _ h with ⟨rfl, z⟩ | ⟨q, h⟩
      · cases z
        exact ⟨_, k1, .lst upd_same (k5.mono eg)⟩
      · obtain ⟨v, h1, h2⟩ := S.dat j e h
        exact ⟨v, h1, h2.mono eg⟩
    · rcases key j _ h with ⟨rfl, z⟩ | ⟨q, h⟩
      · cases z
      · obtain ⟨p2, vs2, l1, l2, l3, l4, l5⟩ := S.own j es h
        have ne : p2 ≠ p := fun z => by
          subst z
          exact q (S.sep i j _ _ p2 hi h k1 l1)
        exact ⟨p2, vs2, l1, by rw [upd_ne ne]; exact l2, by rw [upd_ne ne]; exact l3, l4, l5.mono eg⟩
    · rcases key j _ h1 with ⟨rfl, z⟩ | ⟨q1, h1⟩
      · cases z
      · rcases key k _ h2 with ⟨rfl, z⟩ | ⟨q2, h2⟩
        · cases z
        · exact S.sep j k a b p' h1 h2 h3 h4
  · have q : x ≠ p := fun z => by subst z; rw [k2] at h; cases h
    rw [del_ne q]
    exact g.g x o (by rw [upd_ne q]; exact h)
  · by_cases q : x = p
    · subst q; rw [del_same] at h; cases h
    · rw [del_ne q] at h; exact g.s x o h
  · by_cases q : x = p
    · subst q; rw [del_same]
    · rw [del_ne q]
      exact g.m x (by rw [upd_ne q]; exact h1) h2
  · have q : x ≠ p := fun z => by subst z; rw [upd_same] at h1; cases h1
    rw [del_ne q]
theorem s_peek {i : Nat} {ds : List Dat} (hi : ρ[i]? = some (.own ds)) (hs : scalD d = true) (h : Sem K te (ρ.set i (.dat (.lst ds))) d) : Sem K te ρ d := fun G0 B0 σ G H S Q q => by
  obtain ⟨G1, B1, S1, hb⟩ := S.peek hi
  refine h _ _ _ _ _ S1 _ fun v G2 H2 g2 rv => ?_
  obtain ⟨G3, g3, _⟩ := hb G2 H2 g2
  exact q v G3 H2 g3 (rv.scal hs)
theorem st_peek {tt : TT} {i : Nat} {ds : List Dat} {k : Bool} (hi : ρ[i]? = some (.own ds)) (h : SemT K tt (ρ.set i (.dat (.lst ds))) k) : SemT K tt ρ k := fun G0 B0 σ G H S Q q => by
  obtain ⟨G1, B1, S1, hb⟩ := S.peek hi
  refine h _ _ _ _ _ S1 _ fun G2 H2 g2 => ?_
  obtain ⟨G3, g3, _⟩ := hb G2 H2 g2
  exact q G3 H2 g3
end
/-! ### zip, enumerate -/
theorem pi_zipU {X : Cx} {K : PySem.W.Frag} {e e2 : Expr} {ta : TA} {p pos tpos : Pos} {elts : List Expr} {kk : Nat} (hK : X.K = K) (hg : Gl X "zip") (hm : X.mg "zip" = none) (ha : PA X [e, e2] ta)
    (hs : starEach [e, e2] X.env = (false, eval e X.env) :: starEach [e2] X.env := by rfl) (hpl : (backTo pos (starEach [e2] X.env)).any (·.1) = false := by rfl) :
    PI X (.Tuple elts kk tpos) (.Call (.Name "zip" p) [e, e2] [] pos) (iZip K ta) := by
  subst hK
  exact pi_zip hg hm ha hs hpl
theorem pi_enumU {X : Cx} {K : PySem.W.Frag} {e : Expr} {ta : TA} {p pos tpos : Pos} {elts : List Expr} {kk : Nat} (hK : X.K = K) (hg : Gl X "enumerate") (hm : X.mg "enumerate" = none) (ha : PA X [e] ta) (hs : starEach [e] X.env = [(false, eval e X.env)] := by rfl) :
    PI X (.Tuple elts kk tpos) (.Call (.Name "enumerate" p) [e] [] pos) (iEnum K ta) := by
  subst hK
  exact pi_enum hg hm ha hs
section
variable {K : PySem.W.Frag} {ρ : List Sl} {t ta tb tc te : TE} {a b c d : Dat}
theorem walks_zip {G : Hp} {p q : Addr} {xs ys : List V} {ds es : List Dat} (h : G p = some (.lst xs)) (r : DRs K G xs ds) (h2 : G q = some (.lst ys)) (r2 : DRs K G ys es) : Walks K (Itz K p q) G ((ds.zip es).map fun z => .tup [z.1, z.2]) where
  go := fun i G' H e1 e2 hi => by
    rw [List.length_map, List.length_zip] at hi
    exact ⟨xs, ys, xs[i]'(by rw [r.length]; omega), ys[i]'(by rw [r2.length]; omega), .inl (.inl (e2 _ _ (e1 _ _ h))), .inl (.inl (e2 _ _ (e1 _ _ h2))), List.getElem?_eq_getElem _, List.getElem?_eq_getElem _⟩
  yld := fun i G' H x H' d e1 e2 hd y => by
    obtain ⟨T, u, v, rfl, hT, rfl, hu, hv⟩ := y
    rw [List.getElem?_map] at hd
    cases z : (ds.zip es)[i]? with
    | none => rw [z] at hd; cases hd
    | some w =>
      rw [z] at hd
      cases hd
      obtain ⟨z1, z2⟩ := List.getElem?_zip_eq_some.mp z
      obtain ⟨v1, k1, k2⟩ := r.at z1
      obtain ⟨v2, k3, k4⟩ := r2.at z2
      have a1 := hu xs (.inl (.inl (e2 _ _ (e1 _ _ h))))
      have a2 := hv ys (.inl (.inl (e2 _ _ (e1 _ _ h2))))
      rw [k1] at a1; rw [k3] at a2
      cases a1; cases a2
      have gn : Grow G' H (upd G' T (.tup [u, v])) (upd H T (.tup [u, v])) := Grow.new e2 hT
      exact ⟨_, gn, .tup (.inl (.inl upd_same)) (.cons ((k2.mono e1).mono gn.g) (.cons ((k4.mono e1).mono gn.g) .nil))⟩
  stop := fun i G' H e1 e2 hi => by
    rw [List.length_map, List.length_zip] at hi
    refine ⟨xs, ys, .inl (.inl (e2 _ _ (e1 _ _ h))), .inl (.inl (e2 _ _ (e1 _ _ h2))), ?_⟩
    rw [r.length, r2.length]
    omega
theorem si_zip {u : TA} {ds es : List Dat} (h : SemA K u ρ [.lst ds, .lst es]) : SemI K (iZip K u) ρ ((ds.zip es).map fun z => .tup [z.1, z.2]) := fun G0 B0 σ G H S R q =>
  h _ _ _ _ _ S _ fun xs G1 H1 g1 rs => by
    cases rs with
    | cons h1 rs =>
      cases rs with
      | cons h2 rs =>
        cases rs
        cases h1 with
        | lst a1 r1 =>
          cases h2 with
          | lst a2 r2 => exact ⟨_, _, _, _, rfl, .inl (.inl (g1.s _ _ a1)), .inl (.inl (g1.s _ _ a2)), q _ G1 H1 g1 (walks_zip a1 r1 a2 r2)⟩
theorem walks_enum {G : Hp} {p : Addr} {xs : List V} {ds : List Dat} (h : G p = some (.lst xs)) (r : DRs K G xs ds) : Walks K (Ite K p) G (ds.zipIdx.map fun z => .tup [.int ((z.2 : Nat) : Int), z.1]) where
  go := fun i G' H e1 e2 hi => by
    rw [List.length_map, List.length_zipIdx] at hi
    exact ⟨xs, xs[i]'(by rw [r.length]; omega), .inl (.inl (e2 _ _ (e1 _ _ h))), List.getElem?_eq_getElem _⟩
  yld := fun i G' H x H' d e1 e2 hd y => by
    obtain ⟨T, u, rfl, hT, rfl, hu⟩ := y
    rw [List.getElem?_map, List.getElem?_zipIdx] at hd
    cases z : ds[i]? with
    | none => rw [z] at hd; cases hd
    | some w =>
      rw [z] at hd
      cases hd
      obtain ⟨v1, k1, k2⟩ := r.at z
      have a1 := hu xs (.inl (.inl (e2 _ _ (e1 _ _ h))))
      rw [k1] at a1
      cases a1
      have gn : Grow G' H (upd G' T (.tup [.int (i : Nat), u])) (upd H T (.tup [.int (i : Nat), u])) := Grow.new e2 hT
      have e0 : ((0 + i : Nat) : Int) = ((i : Nat) : Int) := by rw [Nat.zero_add]
      refine ⟨_, gn, .tup (.inl (.inl upd_same)) (.cons ?_ (.cons ((k2.mono e1).mono gn.g) .nil))⟩
      show DR K _ (.int ((i : Nat) : Int)) (.int ((0 + i : Nat) : Int))
      rw [e0]
      exact .int _
  stop := fun i G' H e1 e2 hi => by
    rw [List.length_map, List.length_zipIdx] at hi
    exact ⟨xs, .inl (.inl (e2 _ _ (e1 _ _ h))), by rw [r.length]; exact hi⟩
theorem si_enum {u : TA} {ds : List Dat} (h : SemA K u ρ [.lst ds]) : SemI K (iEnum K u) ρ (ds.zipIdx.map fun z => .tup [.int ((z.2 : Nat) : Int), z.1]) := fun G0 B0 σ G H S R q =>
  h _ _ _ _ _ S _ fun xs G1 H1 g1 rs => by
    cases rs with
    | cons h1 rs =>
      cases rs
      cases h1 with
      | lst a1 r1 => exact ⟨_, _, rfl, .inl (.inl (g1.s _ _ a1)), q _ G1 H1 g1 (walks_enum a1 r1)⟩
end
/-! ### list(..), tuple(..) -/
def uList (K : PySem.W.Frag) : List V → Hp → VK → Prop := fun xs H Q => ∃ p ys, xs = [.ref p] ∧ (SqL K H p ys ∨ SqT K H p ys) ∧ ∀ l, H l = none → Q (.ref l) (upd H l (.lst ys))
def uTuple (K : PySem.W.Frag) : List V → Hp → VK → Prop := fun xs H Q => ∃ p ys, xs = [.ref p] ∧ ((SqL K H p ys ∧ ∀ l, H l = none → Q (.ref l) (upd H l (.tup ys))) ∨ (SqT K H p ys ∧ Q (.ref p) H))
theorem cu_list {X : Cx} {K : PySem.W.Frag} (hK : X.K = K) : CallR X (.type "list") (uList K) := by subst hK; exact call_list_of
theorem cu_tuple {X : Cx} {K : PySem.W.Frag} (hK : X.K = K) : CallR X (.type "tuple") (uTuple K) := by subst hK; exact call_tuple_of
def seqD : Dat → Option (List Dat)
  | .lst ds => some ds
  | .tup ds => some ds
  | .scr ns => some (ns.map .int)
  | _ => none
section
variable {K : PySem.W.Frag} {ρ : List Sl} {t ta tb tc te : TE} {a b c d : Dat}
theorem sn_list {u : TA} {ds : List Dat} (h : SemA K u ρ [d]) (hd : seqD d = some ds) : SemN K (tCB (uList K) u) ρ ds := fun G0 B0 σ G H S Q q =>
  h _ _ _ _ _ S _ fun xs G1 H1 g1 rs => by
    cases rs with
    | cons h1 rs =>
      cases rs
      have fin : ∀ {ys : List V}, DRs K G1 ys ds → ∀ l, H1 l = none → Q (.ref l) (upd H1 l (.lst ys)) := fun {ys} r l hl =>
        q l ys G1 _ (g1.trans (Grow.newM g1.s hl)) (fresh_back g1.h hl) (fresh_back g1.s hl) upd_same r
      cases h1 with
      | lst a1 r => cases hd; exact ⟨_, _, rfl, .inl (.inl (.inl (g1.s _ _ a1))), fin r⟩
      | tup a1 r => cases hd; exact ⟨_, _, rfl, .inr (ex_t g1.s a1), fin r⟩
      | scr a1 => cases hd; exact ⟨_, _, rfl, .inl (ex_l g1.s a1), fin (DRs.ofInts _)⟩
      | _ => cases hd
theorem cs_tuple {ds : List Dat} (hd : seqD d = some ds) : CallS K (uTuple K) [d] (.tup ds) := fun xs G H e r Q q => by
  cases r with
  | cons h1 r =>
    cases r
    have fin : ∀ {ys : List V}, DRs K G ys ds → ∀ l, H l = none → Q (.ref l) (upd H l (.tup ys)) := fun {ys} r l hl => by
      have gn : Grow G H (upd G l (.tup ys)) (upd H l (.tup ys)) := Grow.new e hl
      exact q _ _ _ gn (.tup (.inl (.inl upd_same)) (r.mono gn.g))
    cases h1 with
    | lst a1 r => cases hd; exact ⟨_, _, rfl, .inl ⟨.inl (.inl (e _ _ a1)), fin r⟩⟩
    | tup a1 r => cases hd; exact ⟨_, _, rfl, .inr ⟨ex_t e a1, q _ _ _ (Grow.refl e) (.tup a1 r)⟩⟩
    | scr a1 => cases hd; exact ⟨_, _, rfl, .inl ⟨ex_l e a1, fin (DRs.ofInts _)⟩⟩
    | _ => cases hd
end
/-! ### max(xs) of data -/
theorem DpAll.get {K : PySem.W.Frag} {H : Hp} : ∀ {vs : List V} {ds : List PyData} {i : Nat} {v : V}, DpAll K H vs ds → vs[i]? = some v → ∃ d, ds[i]? = some d ∧ Dp K H v d
  | _, _, _, _, .nil, e => by simp at e
  | _, _, 0, _, .cons h _, e => by simp at e; subst e; exact ⟨_, rfl, h⟩
  | _, _, i + 1, v, .cons _ r, e => by
    obtain ⟨d, h1, h2⟩ := DpAll.get (i := i) (v := v) r (by simpa using e)
    exact ⟨d, by simpa using h1, h2⟩
def uMaxU (K : PySem.W.Frag) : List V → Hp → VK → Prop := fun xs H Q => uMax xs H Q ∨
  ∃ a ys d ds, xs = [.ref a] ∧ SqL K H a ys ∧ DpAll K H ys (d :: ds) ∧ AlikeAll (d :: ds) ∧ PyData.depthAll (d :: ds) ≤ 60 ∧ ∀ (i : Nat) v, ys[i]? = some v → (d :: ds)[i]? = some (maxD d ds) → Q v H
theorem Vals.getU : ∀ {xs : List V} {us : List Value} {i : Nat} {u : Value}, Vals xs us → us[i]? = some u → ∃ x, xs[i]? = some x ∧ RelV x u
  | _, _, _, _, .nil, e => by simp at e
  | _, _, 0, _, .cons h _, e => by simp at e; subst e; exact ⟨_, rfl, h⟩
  | _, _, i + 1, v, .cons _ r, e => by
    obtain ⟨d, h1, h2⟩ := Vals.getU (i := i) (u := v) r (by simpa using e)
    exact ⟨d, by simpa using h1, h2⟩
theorem cu_maxU {X : Cx} {K : PySem.W.Frag} (hK : X.K = K) (hc : X.calm = true) (hu : X.A.units + 64 < cLine) : CallR X (.builtin "max") (uMaxU K) := by
  subst hK
  intro pins s σ H vs us Q I r h
  rcases h with h | ⟨a, ys, d, ds, rfl, hs, hd, ha, hn, q⟩
  · exact cu_max hc pins s σ H vs us Q I r h
  · obtain ⟨its, rv, hl, _⟩ := I.list hs
    rw [Vals.ref1 r]
    obtain ⟨as, rs⟩ := Dp.readsAll I (d :: ds) ys its hd rv
    refine max_list_data (I.ok.hd hc) hl.isList (by rw [List.toList_toArray]; exact rs) ha (by omega) fun i v h' tk bs hi rm hk => ?_
    have hi' : its[i]? = some v := by simpa using hi
    obtain ⟨x, hx, rx⟩ := Vals.getU rv hi'
    obtain ⟨dx, hdx, px⟩ := DpAll.get hd hx
    obtain ⟨cs, rd⟩ := Dp.reads I dx x v px rx
    have e1 := (reads_det (fun b o e _ => hk b o e) rd rm).1
    exact ⟨x, H, I.kept hk, rx, q i x hx (by rw [hdx, e1])⟩
section
variable {K : PySem.W.Frag} {ρ : List Sl} {t ta tb tc te : TE} {a b c d : Dat}
theorem toPys_map : ∀ ds : List Dat, toPys ds = ds.map toPy
  | [] => rfl
  | d :: r => by rw [toPys, toPys_map r]; rfl
theorem cs_max2 {i j : Int} : CallS K (uMaxU K) [.int i, .int j] (.int (max i j)) := fun xs G H e r Q q => .inl (cs_max xs G H e r Q q)
theorem cs_maxD {e : Dat} {es : List Dat} {m : Dat} (hp : plainDs (e :: es) = true) (ha : AlikeAll (toPys (e :: es))) (hd : PyData.depthAll (toPys (e :: es)) ≤ 60)
    (hm : ∀ (i : Nat) d, (e :: es)[i]? = some d → toPy d = maxD (toPy e) (toPys es) → d = m) : CallS K (uMaxU K) [.lst (e :: es)] m := fun xs G H x r Q q => by
  cases r with
  | cons h1 r =>
    cases r
    cases h1 with
    | lst a1 r1 =>
      refine .inr ⟨_, _, toPy e, toPys es, rfl, .inl (.inl (x _ _ a1)), (r1.mono x).dp hp, ha, hd, fun i v hv he => ?_⟩
      obtain ⟨d, k1, k2⟩ := r1.get hv
      have e2 : toPy d = maxD (toPy e) (toPys es) := by
        have z : (toPys (e :: es))[i]? = some (toPy d) := by rw [toPys_map, List.getElem?_map, k1]; rfl
        have z2 : (toPys (e :: es))[i]? = some (maxD (toPy e) (toPys es)) := he
        rw [z] at z2
        exact Option.some.inj z2
      have := hm i d k1 e2
      subst this
      exact q _ _ _ (Grow.refl x) k2
/-- the greatest, where it is told -/
theorem maxD_eq {m : PyData} : ∀ (xs : List PyData) (x : PyData), m ∈ x :: xs → (∀ y ∈ x :: xs, dataLt m y = false) → (∀ y ∈ x :: xs, y = m ∨ dataLt y m = true) → maxD x xs = m
  | [], x, hx, _, _ => by
    rcases List.mem_cons.mp hx with h | h
    · exact h.symm
    · cases h
  | y :: r, x, hx, h1, h2 => by
    show maxD (if dataLt x y = true then y else x) r = m
    have hr : ∀ z ∈ r, z ∈ x :: y :: r := fun z hz => List.mem_cons_of_mem _ (List.mem_cons_of_mem _ hz)
    have hacc : (if dataLt x y = true then y else x) = x ∨ (if dataLt x y = true then y else x) = y := by split <;> simp
    refine maxD_eq r _ ?_ (fun z hz => ?_) (fun z hz => ?_)
    · rcases List.mem_cons.mp hx with e | hx
      · subst e
        rw [if_neg (by rw [h1 y (by simp)]; simp)]
        exact List.mem_cons_self
      · rcases List.mem_cons.mp hx with e | hx
        · subst e
          rcases h2 x (by simp) with e | e
          · subst e
            split <;> exact List.mem_cons_self
          · rw [if_pos e]; exact List.mem_cons_self
        · exact List.mem_cons_of_mem _ hx
    · rcases List.mem_cons.mp hz with e | hz
      · subst e
        rcases hacc with e | e <;> rw [e] <;> exact h1 _ (by simp)
      · exact h1 z (hr z hz)
    · rcases List.mem_cons.mp hz with e | hz
      · subst e
        rcases hacc with e | e <;> rw [e] <;> exact h2 _ (by simp)
      · exact h2 z (hr z hz)
end
end DL

set_option Elab.async false
set_option linter.all false
set_option maxRecDepth 100000
namespace K12
open PySem PySem.Spec PyProof.Rows L2 DL
local macro_rules | `(tactic| walk_at "kitb") => `(tactic| first | exact kb_NoneType_str | exact kb_NoneType_bool | exact kb_NoneType_int | exact kb_NoneType_list | exact kb_NoneType_tuple | exact kb_NoneType_dict | exact kb_bool_str | exact kb_bool_bool | exact kb_bool_int | exact kb_bool_list | exact kb_bool_tuple | exact kb_bool_dict | exact kb_int_str | exact kb_int_bool | exact kb_int_int | exact kb_int_list | exact kb_int_tuple | exact kb_int_dict | exact kb_str_str | exact kb_str_bool | exact kb_str_int | exact kb_str_list | exact kb_str_tuple | exact kb_str_dict | exact kb_list_str | exact kb_list_bool | exact kb_list_int | exact kb_list_list | exact kb_list_tuple | exact kb_list_dict | exact kb_tuple_str | exact kb_tuple_bool | exact kb_tuple_int | exact kb_tuple_list | exact kb_tuple_tuple | exact kb_tuple_dict | exact kb_dict_str | exact kb_dict_bool | exact kb_dict_int | exact kb_dict_list | exact kb_dict_tuple | exact kb_dict_dict)
/-! the words that run a reading: "sem" an expression, "sems" arguments, "ops" an operation, "side" what is left -/
local macro_rules | `(tactic| walk_at "side") => `(tactic| first | assumption | decide | omega | (unfold sizeLine; omega) | (unfold sizeLine; simp only [List.length_map, List.length_append, List.length_cons, List.length_nil]; omega))
local macro_rules | `(tactic| walk_at "ops") => `(tactic| first
  | exact os_addI | exact os_sub | exact os_lt | exact os_le | exact os_gt | exact os_ge | exact os_eqI | exact os_neI | exact os_eqT | exact os_neT | exact os_eqB | exact os_neB
  | exact os_neScr | exact os_inC | exact os_notinC | exact os_inTT | exact os_in2 | exact os_in3 | exact os_notin2 | exact os_notinTT | exact os_inTL | exact os_notinTL | exact os_isN | exact os_isnotN | exact os_isB | exact os_isnotB
  | (apply os_mod; walk_at "side") | (apply os_div; walk_at "side") | (apply os_mul; walk_at "mul") | (apply os_addT; walk_at "side") | (apply os_addL; walk_at "side") | (apply os_addU; walk_at "side")
  | (apply os_ixL; walk_at "ix") | (apply os_ixU; walk_at "ix") | (apply os_ixT; (· walk_at "ix"); (· walk_at "side")) | (apply os_ixS; walk_at "ix"))
local macro_rules | `(tactic| walk_at "mul") => `(tactic| first | exact Or.inr ⟨by decide, by decide⟩ | exact Or.inl ⟨by decide, by decide⟩ | exact Or.inl ⟨by omega, by omega⟩ | exact Or.inr ⟨by omega, by omega⟩)
local macro_rules | `(tactic| walk_at "ix") => `(tactic| first | assumption | rfl)
local macro_rules | `(tactic| walk_at "calls") => `(tactic| first
  | (apply cs_lenT; walk_at "side") | exact cs_lenL | exact cs_lenU | exact cs_lenS | exact cs_allM | exact cs_all | exact cs_max2 | exact cs_min | (apply cs_tuple; rfl) | (apply cs_isiU; (· rfl); (· walk_at "kitb")) | exact cs_strT | (apply cs_strI; walk_at "side"))
local macro_rules | `(tactic| walk_at "sls") => `(tactic| first | (apply ss_txt; walk_at "side") | exact ss_lst | exact ss_tup)
local macro_rules | `(tactic| walk_at "part") => `(tactic| first | exact so_none | (apply so_some; walk_at "sem"))
local macro_rules | `(tactic| walk_at "sems") => `(tactic| first | exact sa_nil | (apply sa_cons; (· walk_at "sem"); (· walk_at "sems")))
local macro_rules | `(tactic| walk_at "iter") => `(tactic| first | (apply si_u; (· walk_at "sem"); (· rfl)) | (apply si_range1Z; (· walk_at "sems"); (· walk_at "side"); (· walk_at "side")))
local macro_rules | `(tactic| walk_at "mts") => `(tactic| first | (apply ms_strip; walk_at "side") | exact ms_starts3 | exact ms_find3 | (apply ms_joinM; walk_at "side") | (apply ms_join; walk_at "side") | (apply ms_split; (· walk_at "side"); (· walk_at "side")))
local macro_rules | `(tactic| walk_at "test") => `(tactic| first
  | exact st_yes | (apply st_and; (· walk_at "test"); (· (intro; walk_at "test"))) | (apply st_or; (· walk_at "test"); (· (intro; walk_at "test"))) | (apply st_not; walk_at "test")
  | (apply st_test; walk_at "sem") | (apply st_bl; walk_at "sem") | (apply st_tru; (· walk_at "sem"); (· first | exact trivial | walk_at "side")))
local macro_rules | `(tactic| walk_at "sem") => `(tactic| first
  | exact s_int | exact s_ty | exact s_str | exact s_bl | exact s_non | (apply s_var; rfl) | (apply s_c; assumption)
  | (apply s_op; (· walk_at "sem"); (· walk_at "sem"); (· walk_at "ops"))
  | (apply s_un; (· walk_at "sem"); (· exact us_neg))
  | (apply s_chain; (· walk_at "sem"); (· walk_at "sem"); (· walk_at "ops"); (· (intro; walk_at "sem")); (· (intro; walk_at "ops")))
  | (apply s_andB; (· walk_at "sem"); (· (intro; walk_at "sem")))
  | (apply s_orB; (· walk_at "sem"); (· (intro; walk_at "sem")))
  | (apply s_notB; walk_at "sem")
  | (apply s_if; (· walk_at "test"); (· (intro; walk_at "sem")); (· (intro; walk_at "sem")))
  | (apply s_tup; (· walk_at "sems"); (· walk_at "side"))
  | (apply s_lst; (· walk_at "sems"); (· walk_at "side"))
  | (apply s_cb; (· walk_at "sems"); (· walk_at "calls"))
  | (apply s_sl; (· walk_at "sem"); (· walk_at "part"); (· walk_at "part"); (· walk_at "sls"))
  | (apply s_m1; (· walk_at "sem"); (· walk_at "sem"); (· walk_at "mts"))
  | (apply s_call; (· walk_at "sems"); (· walk_at "fn")) | (apply s_callO0; (· walk_at "sems"); (· walk_at "fn")) | (apply s_callO; (· walk_at "sems"); (· walk_at "fn"))
  | (apply s_bmT; (· walk_at "sem"); (· walk_at "sems"); (· walk_at "mts"))
  | exact s_dnew
  | (apply s_ofN; apply sn_lcM; (· walk_at "iter"); (· walk_at "side"); (· (intro x hx; walk_at "sem")))
  | (apply s_ofN; apply sn_lcF; (· walk_at "iter"); (· walk_at "side"); (· (intro x hx; walk_at "test")); (· (intro x hx _; walk_at "sem"))))
def topS (i : Nat) : Stmt := PySem.Challenge.pw_readwright_k12_texts_cut.main.body.getD i (.Pass ⟨0, 0, 0, 0⟩)
abbrev s_ini_NoWord : Stmt := inClass (topS 2) 0
theorem sc_ini_NoWord : FnScope ["self", "place"] ["self", "place"] (defScope s_ini_NoWord) := ⟨rfl, rfl, rfl, by decide +kernel, rfl, by decide +kernel, by decide +kernel⟩
def M_NoWord (K : PySem.W.Frag) : TE := (tOp (uAdd K) (tC (.str (Str.ofString "no word at "))) (tCB uStr (tCons (tVar 1) tNil)))
theorem p_ini_NoWord {P : Program} {w : World} {K : PySem.W.Frag} {mg : Str → Option Value} {base : Heap} {f x_B : Addr} (mg_B : mg "GrammarError" = some (.ref x_B)) (rd : PySem.W.readsIn K x_B (.type "type") = true) (gt : PySem.W.specialIn K (.ref x_B) "__getattribute__" = some (some (.builtin "type.__getattribute__")))
    (fc : PySem.W.findCls K (.ref x_B) (.type "type") "__init__" = some (.val (.builtin "ValueError.__init__"))) (mz_str : mg "str" = none) (cdv : Value) (A : Around) (outer : List Env) (s : Shared) (H : Hp) (E : XK) :
    PSs (cxOf CX0 P w K mg base ["self", "place"] "NoWord.__init__" (defScope s_ini_NoWord) f cdv A outer s H E).nox (defBody s_ini_NoWord) (tSeq (tDrop (tVeI K (tCons (tVar 0) (tCons (M_NoWord K) tNil)))) (tOst K "place" (tVar 0) (tVar 1))) :=
  (pss_cons (ps_expr (pe_baseinit rfl (by rfl) mg_B rd gt fc (pa_cons (pv 0) (pa_cons (pe_op (ou_add rfl) pe_str (pe_callTy cu_str (by rfl) mz_str (by decide +kernel) (pa_cons (pv 1) pa_nil))) pa_nil)))) (pss_one (ps_ost (pv 0) (pv 1))))
/-! kind_of: slots 0 word -/
abbrev s_kind_of : Stmt := topS 5
theorem sc_kind_of : FnScope ["word"] ["word"] (defScope s_kind_of) := ⟨rfl, rfl, rfl, by decide +kernel, rfl, by decide +kernel, by decide +kernel⟩
def T_kind_of (K : PySem.W.Frag) : TS :=
  (tRet (tOp (uAdd K) (tC (.str (Str.ofString "'"))) (tVar 0)))
theorem p_kind_of {P : Program} {w : World} {K : PySem.W.Frag} {mg : Str → Option Value} {base : Heap} {f : Addr} {k : Nat} (cdv : Value) (A : Around) (outer : List Env) (s : Shared) (H : Hp) (E : XK)
    (hr : Room k (A.deeper (envOfC "kind_of" (defScope s_kind_of) s.heap.objs.size f cdv))) :
    PSs (cxOf CX0 P w K mg base ["word"] "kind_of" (defScope s_kind_of) f cdv A outer s H E).nox (defBody s_kind_of) (T_kind_of K) :=
  (pss_one (ps_ret (pe_op (ou_add rfl) pe_str (pv 0))))
/-! run_of: slots 0 text, 1 at, 2 signs, 3 end -/
abbrev s_run_of : Stmt := topS 10
theorem sc_run_of : FnScope ["text", "at", "signs", "end"] ["text", "at", "signs"] (defScope s_run_of) := ⟨rfl, rfl, rfl, by decide +kernel, rfl, by decide +kernel, by decide +kernel⟩
def T_run_of (K : PySem.W.Frag) : TS :=
  (tSeq (tAsg (tVar 1) (gName 3))
  (tSeq (tWhile (tAnd (tTest (tOp uLt (tVar 3) (tCB (uLen K) (tCons (tVar 0) tNil)))) (tTest (tOp (uIn K) (tOp (rIx K) (tVar 0) (tVar 3)) (tVar 2)))) (tAug 3 (tC (.int 1)) (uIpAdd)))
  (tRet (tOp uSub (tVar 3) (tVar 1)))))
theorem p_run_of {P : Program} {w : World} {K : PySem.W.Frag} {mg : Str → Option Value} {base : Heap} {f : Addr} {k : Nat} (mz_len : mg "len" = none) (cdv : Value) (A : Around) (outer : List Env) (s : Shared) (H : Hp) (E : XK)
    (hr : Room k (A.deeper (envOfC "run_of" (defScope s_run_of) s.heap.objs.size f cdv))) :
    PSs (cxOf CX0 P w K mg base ["text", "at", "signs", "end"] "run_of" (defScope s_run_of) f cdv A outer s H E).nox (defBody s_run_of) (T_run_of K) :=
  (pss_cons (ps_set (i := 3) sc_run_of.nd rfl (Or.inl rfl) (pv 1))
  (pss_cons (ps_while PassesOwn.never (PW.pt (pw_and (pt_cmpR ou_lt (pv 3) (pe_callB (cu_len rfl) (by rfl) mz_len (by decide +kernel) (pa_cons (pv 0) pa_nil)) (nomark _)) (pw_and1 (pt_cmpR (ou_in rfl (room65 hr)) (pe_ix (ou_ix rfl) (pv 0) (pv 3) (fun _ _ => rfl)) (pv 2) (by rfl))))) (pss_one (ps_aug (i := 3) sc_run_of.nd rfl (Or.inl rfl) pe_int ipu_add)))
  (pss_one (ps_ret (pe_op ou_sub (pv 3) (pv 1))))))
/-! quote_at: slots 0 text, 1 at, 2 end -/
abbrev s_quote_at : Stmt := topS 11
theorem sc_quote_at : FnScope ["text", "at", "end"] ["text", "at"] (defScope s_quote_at) := ⟨rfl, rfl, rfl, by decide +kernel, rfl, by decide +kernel, by decide +kernel⟩
def T_quote_at (K : PySem.W.Frag) (g_MARK : V) : TS :=
  (tSeq (tIfS (tTest (tOp (uNe K) (tOp (rIx K) (tVar 0) (tVar 1)) (tC g_MARK))) (tRet (tC (.int 0))) tNext)
  (tSeq (tAsg (tBM K "str" uFind3 (tVar 0) (tCons (tC g_MARK) (tCons (tOp (uAdd K) (tVar 1) (tC (.int 1))) tNil))) (gName 2))
  (tSeq (tIfS (tOr (tTest (tOp uLt (tVar 2) (tC (.int 0)))) (tTest (tOp (uIn K) (tC (.str (Str.ofString "\n"))) (tSl (uSl K) (tVar 0) (tPart (tVar 1)) (tPart (tVar 2)))))) (tRet (tC (.int 0))) tNext)
  (tRet (tOp uSub (tOp (uAdd K) (tVar 2) (tC (.int 1))) (tVar 1))))))
theorem p_quote_at {P : Program} {w : World} {K : PySem.W.Frag} {mg : Str → Option Value} {base : Heap} {f : Addr} {k : Nat} {g_MARK : V} {u_MARK : Value} (mg_MARK : mg "MARK" = some u_MARK) (rv_MARK : RelV g_MARK u_MARK) (cdv : Value) (A : Around) (outer : List Env) (s : Shared) (H : Hp) (E : XK)
    (hr : Room k (A.deeper (envOfC "quote_at" (defScope s_quote_at) s.heap.objs.size f cdv))) :
    PSs (cxOf CX0 P w K mg base ["text", "at", "end"] "quote_at" (defScope s_quote_at) f cdv A outer s H E).nox (defBody s_quote_at) (T_quote_at K g_MARK) :=
  (pss_cons (ps_if (pt_cmpR (ou_ne rfl (room64 hr)) (pe_ix (ou_ix rfl) (pv 0) (pv 1) (fun _ _ => rfl)) (pe_glob (by rfl) mg_MARK rv_MARK) (nomark _)) (pss_one (ps_ret pe_int)) pss_nil)
  (pss_cons (ps_set (i := 2) sc_quote_at.nd rfl (Or.inl rfl) (pe_bm PySem.F.plainAttrs_str PySem.F.slot_str_find PySem.F.type_str_find mt_find3 (pv 0) (pa_cons (pe_glob (by rfl) mg_MARK rv_MARK) (pa_cons (pe_op (ou_add rfl) (pv 1) pe_int) pa_nil))))
  (pss_cons (ps_if (PW.pt (pw_or (pt_cmpR ou_lt (pv 2) pe_int (nomark _)) (pw_or1 (pt_cmpR (ou_in rfl (room65 hr)) pe_str (pe_slice (ou_sl rfl) (pv 0) (po_some (pv 1)) (po_some (pv 2))) (by rfl))))) (pss_one (ps_ret pe_int)) pss_nil)
  (pss_one (ps_ret (pe_op ou_sub (pe_op (ou_add rfl) (pv 2) pe_int) (pv 1)))))))
/-! word_at: slots 0 text, 1 at, 2 fixed, 3 found, 4 kind, 5 many, 6 word -/
abbrev s_word_at : Stmt := topS 12
theorem sc_word_at : FnScope ["text", "at", "fixed", "found", "kind", "many", "word"] ["text", "at", "fixed"] (defScope s_word_at) := ⟨rfl, rfl, rfl, by decide +kernel, rfl, by decide +kernel, by decide +kernel⟩
def T_word_at (K : PySem.W.Frag) (sp_run_of : Sp) (sp_quote_at : Sp) (sp_kind_of : Sp) (g_LETTERS : V) (g_FIGURES : V) : TS :=
  (tSeq (tAsg (tTup (tCons (tC (.str (Str.ofString "NAME"))) (tCons (tCall sp_run_of [] E0 (tCons (tVar 0) (tCons (tVar 1) (tCons (tC g_LETTERS) tNil)))) tNil))) (gName 3))
  (tSeq (tFor (iU K (tTup (tCons (tTup (tCons (tC (.str (Str.ofString "NUMBER"))) (tCons (tCall sp_run_of [] E0 (tCons (tVar 0) (tCons (tVar 1) (tCons (tC g_FIGURES) tNil)))) tNil))) (tCons (tTup (tCons (tC (.str (Str.ofString "QUOTE"))) (tCons (tCall sp_quote_at [] E0 (tCons (tVar 0) (tCons (tVar 1) tNil))) tNil))) tNil)))) (gTup K 2 (gCons (gName 4) (gCons (gName 5) gNil))) (tIfS (tTest (tOp uGt (tVar 5) (tOp (rIx K) (tVar 3) (tC (.int 1))))) (tAsg (tTup (tCons (tVar 4) (tCons (tVar 5) tNil))) (gName 3)) tNext))
  (tSeq (tFor (iU K (tVar 2)) (gName 6) (tIfS (tAnd (tTru K (tBM K "str" uStarts3 (tVar 0) (tCons (tVar 6) (tCons (tVar 1) tNil)))) (tOr (tTest (tOp uGt (tCB (uLen K) (tCons (tVar 6) tNil)) (tOp (rIx K) (tVar 3) (tC (.int 1))))) (tAnd (tTest (tOp (uEq K) (tCB (uLen K) (tCons (tVar 6) tNil)) (tOp (rIx K) (tVar 3) (tC (.int 1))))) (tTest (tOp (uNe K) (tOp (rIx K) (tOp (rIx K) (tVar 3) (tC (.int 0))) (tC (.int 0))) (tC (.str (Str.ofString "'")))))))) (tAsg (tTup (tCons (tCall sp_kind_of [] E0 (tCons (tVar 6) tNil)) (tCons (tCB (uLen K) (tCons (tVar 6) tNil)) tNil))) (gName 3)) tNext))
  (tRet (tVar 3)))))
theorem p_word_at {P : Program} {w : World} {K : PySem.W.Frag} {mg : Str → Option Value} {base : Heap} {f : Addr} {k : Nat} {sp_run_of : Sp} (gd_run_of : GD P w K mg base k "run_of" ["text", "at", "signs"] sp_run_of) {sp_quote_at : Sp} (gd_quote_at : GD P w K mg base k "quote_at" ["text", "at"] sp_quote_at) {sp_kind_of : Sp} (gd_kind_of : GD P w K mg base k "kind_of" ["word"] sp_kind_of) {g_LETTERS : V} {u_LETTERS : Value} (mg_LETTERS : mg "LETTERS" = some u_LETTERS) (rv_LETTERS : RelV g_LETTERS u_LETTERS) {g_FIGURES : V} {u_FIGURES : Value} (mg_FIGURES : mg "FIGURES" = some u_FIGURES) (rv_FIGURES : RelV g_FIGURES u_FIGURES) (mz_len : mg "len" = none) (cdv : Value) (A : Around) (outer : List Env) (s : Shared) (H : Hp) (E : XK)
    (hr : Room k (A.deeper (envOfC "word_at" (defScope s_word_at) s.heap.objs.size f cdv))) :
    PSs (cxOf CX0 P w K mg base ["text", "at", "fixed", "found", "kind", "many", "word"] "word_at" (defScope s_word_at) f cdv A outer s H E).nox (defBody s_word_at) (T_word_at K sp_run_of sp_quote_at sp_kind_of g_LETTERS g_FIGURES) :=
  (pss_cons (ps_set (i := 3) sc_word_at.nd rfl (Or.inl rfl) (pe_tup (pa_cons pe_str (pa_cons (pe_gd gd_run_of hr (by rfl) (pa_cons (pv 0) (pa_cons (pv 1) (pa_cons (pe_glob (by rfl) mg_LETTERS rv_LETTERS) pa_nil)))) pa_nil))))
  (pss_cons (ps_for PassesOwn.never rfl (pi_u rfl (pe_tup (pa_cons (pe_tup (pa_cons pe_str (pa_cons (pe_gd gd_run_of hr (by rfl) (pa_cons (pv 0) (pa_cons (pv 1) (pa_cons (pe_glob (by rfl) mg_FIGURES rv_FIGURES) pa_nil)))) pa_nil))) (pa_cons (pe_tup (pa_cons pe_str (pa_cons (pe_gd gd_quote_at hr (by rfl) (pa_cons (pv 0) (pa_cons (pv 1) pa_nil))) pa_nil))) pa_nil)))) (pg_tup (by rfl) (pgs_cons (pg_name (i := 4) sc_word_at.nd rfl (by first | exact Or.inl rfl | exact Or.inr rfl)) (pgs_cons (pg_name (i := 5) sc_word_at.nd rfl (by first | exact Or.inl rfl | exact Or.inr rfl)) pgs_nil))) (pss_one (ps_if (pt_cmpR ou_gt (pv 5) (pe_ix (ou_ix rfl) (pv 3) pe_int (fun _ _ => rfl)) (nomark _)) (pss_one (ps_set (i := 3) sc_word_at.nd rfl (Or.inl rfl) (pe_tup (pa_cons (pv 4) (pa_cons (pv 5) pa_nil))))) pss_nil)))
  (pss_cons (ps_for PassesOwn.never rfl (pi_u rfl (pv 2)) (pg_name (i := 6) sc_word_at.nd rfl (by first | exact Or.inl rfl | exact Or.inr rfl)) (pss_one (ps_if (PW.pt (pw_and (pt_any rfl (pe_bm PySem.F.plainAttrs_str PySem.F.slot_str_startswith PySem.F.type_str_startswith mt_startswith3 (pv 0) (pa_cons (pv 6) (pa_cons (pv 1) pa_nil)))) (pw_and1 (PW.pt (pw_or (pt_cmpR ou_gt (pe_callB (cu_len rfl) (by rfl) mz_len (by decide +kernel) (pa_cons (pv 6) pa_nil)) (pe_ix (ou_ix rfl) (pv 3) pe_int (fun _ _ => rfl)) (nomark _)) (pw_or1 (PW.pt (pw_and (pt_cmpR (ou_eq rfl (room64 hr)) (pe_callB (cu_len rfl) (by rfl) mz_len (by decide +kernel) (pa_cons (pv 6) pa_nil)) (pe_ix (ou_ix rfl) (pv 3) pe_int (fun _ _ => rfl)) (nomark _)) (pw_and1 (pt_cmpR (ou_ne rfl (room64 hr)) (pe_ix (ou_ix rfl) (pe_ix (ou_ix rfl) (pv 3) pe_int (fun _ _ => rfl)) pe_int (fun _ _ => rfl)) pe_str (nomark _))))))))))) (pss_one (ps_set (i := 3) sc_word_at.nd rfl (Or.inl rfl) (pe_tup (pa_cons (pe_gd gd_kind_of hr (by rfl) (pa_cons (pv 6) pa_nil)) (pa_cons (pe_callB (cu_len rfl) (by rfl) mz_len (by decide +kernel) (pa_cons (pv 6) pa_nil)) pa_nil))))) pss_nil)))
  (pss_one (ps_ret (pv 3))))))
/-! cut: slots 0 text, 1 fixed, 2 found, 3 at, 4 kind, 5 many -/
abbrev s_cut : Stmt := topS 13
theorem sc_cut : FnScope ["text", "fixed", "found", "at", "kind", "many"] ["text", "fixed"] (defScope s_cut) := ⟨rfl, rfl, rfl, by decide +kernel, rfl, by decide +kernel, by decide +kernel⟩
def T_cut (K : PySem.W.Frag) (sp_word_at : Sp) (g_BETWEEN : V) (x_NoWord : Addr) (sp_x_NoWord : Sp) (W : WX) : TS :=
  (tSeq (tAsg (tLst tNil) (gName 2))
  (tSeq (tAsg (tC (.int 0)) (gName 3))
  (tSeq (tWhile (tTest (tOp uLt (tVar 3) (tCB (uLen K) (tCons (tVar 0) tNil)))) (tSeq (tIfS (tTest (tOp (uIn K) (tOp (rIx K) (tVar 0) (tVar 3)) (tC g_BETWEEN))) (tSeq (tAug 3 (tC (.int 1)) (uIpAdd))
  tCont) tNext)
  (tSeq (tAsg (tCall sp_word_at [] E0 (tCons (tVar 0) (tCons (tVar 3) (tCons (tVar 1) tNil)))) (gTup K 2 (gCons (gName 4) (gCons (gName 5) gNil))))
  (tSeq (tIfS (tTest (tOp (uEq K) (tVar 5) (tC (.int 0)))) (tRaisE (tMkO x_NoWord sp_x_NoWord [] (tCons (tVar 3) tNil)) W) tNext)
  (tSeq (tDrop (tBM K "list" rAppend (tVar 2) (tCons (tTup (tCons (tVar 4) (tCons (tSl (uSl K) (tVar 0) (tPart (tVar 3)) (tPart (tOp (uAdd K) (tVar 3) (tVar 5)))) (tCons (tVar 3) tNil)))) tNil)))
  (tAug 3 (tVar 5) (uIpAdd)))))))
  (tRet (tVar 2)))))
theorem p_cut {P : Program} {w : World} {K : PySem.W.Frag} {mg : Str → Option Value} {base : Heap} {f : Addr} {k : Nat} {sp_word_at : Sp} (gd_word_at : GD P w K mg base k "word_at" ["text", "at", "fixed"] sp_word_at) {g_BETWEEN : V} {u_BETWEEN : Value} (mg_BETWEEN : mg "BETWEEN" = some u_BETWEEN) (rv_BETWEEN : RelV g_BETWEEN u_BETWEEN) {x_NoWord : Addr} {sp_x_NoWord : Sp} (xi_NoWord : XI P w K mg base 1 "NoWord" x_NoWord sp_x_NoWord) (hk2 : 2 ≤ k) (mz_len : mg "len" = none) (cdv : Value) (A : Around) (outer : List Env) (s : Shared) (H : Hp) (E : XK)
    (hr : Room k (A.deeper (envOfC "cut" (defScope s_cut) s.heap.objs.size f cdv))) :
    PSs (cxOf (L2.CX P w) P w K mg base ["text", "fixed", "found", "at", "kind", "many"] "cut" (defScope s_cut) f cdv A outer s H E) (defBody s_cut) (T_cut K sp_word_at g_BETWEEN x_NoWord sp_x_NoWord (fun cls d _ H => E cls d H)) :=
  (pss_cons (ps_set (i := 2) sc_cut.nd rfl (Or.inl rfl) (pe_lst pa_nil))
  (pss_cons (ps_set (i := 3) sc_cut.nd rfl (Or.inl rfl) pe_int)
  (pss_cons (ps_while (passes_of rfl) (pt_cmpR ou_lt (pv 3) (pe_callB (cu_len rfl) (by rfl) mz_len (by decide +kernel) (pa_cons (pv 0) pa_nil)) (nomark _)) (pss_cons (ps_if (pt_cmpR (ou_in rfl (room65 hr)) (pe_ix (ou_ix rfl) (pv 0) (pv 3) (fun _ _ => rfl)) (pe_glob (by rfl) mg_BETWEEN rv_BETWEEN) (by rfl)) (pss_cons (ps_aug (i := 3) sc_cut.nd rfl (Or.inl rfl) pe_int ipu_add)
  (pss_one ps_continue)) pss_nil)
  (pss_cons (ps_asg (pe_gd gd_word_at hr (by rfl) (pa_cons (pv 0) (pa_cons (pv 3) (pa_cons (pv 1) pa_nil)))) (pg_tup (by rfl) (pgs_cons (pg_name (i := 4) sc_cut.nd rfl (by first | exact Or.inl rfl | exact Or.inr rfl)) (pgs_cons (pg_name (i := 5) sc_cut.nd rfl (by first | exact Or.inl rfl | exact Or.inr rfl)) pgs_nil))))
  (pss_cons (ps_if (pt_cmpR (ou_eq rfl (room64 hr)) (pv 5) pe_int (nomark _)) (pss_one (ps_raise rfl (takes_of rfl rfl rfl rfl) (pmk_xi xi_NoWord (hr.mono hk2) (by rfl) (pa_cons (pv 3) pa_nil)))) pss_nil)
  (pss_cons (ps_expr (pe_bm PySem.F.plainAttrs_list PySem.F.slot_list_append PySem.F.type_list_append mt_append (pv 2) (pa_cons (pe_tup (pa_cons (pv 4) (pa_cons (pe_slice (ou_sl rfl) (pv 0) (po_some (pv 3)) (po_some (pe_op (ou_add rfl) (pv 3) (pv 5)))) (pa_cons (pv 3) pa_nil)))) pa_nil)))
  (pss_one (ps_aug (i := 3) sc_cut.nd rfl (Or.inl rfl) (pv 5) ipu_add)))))))
  (pss_one (ps_ret (pv 2))))))
/-! _law_cell: slots 0 _law_script, 1 _law_k, 2 _law_cell_here, 3 _law_more -/
abbrev s__law_cell : Stmt := topS 15
theorem sc__law_cell : FnScope ["_law_script", "_law_k", "_law_cell_here", "_law_more"] ["_law_script", "_law_k"] (defScope s__law_cell) := ⟨rfl, rfl, rfl, by decide +kernel, rfl, by decide +kernel, by decide +kernel⟩
def T__law_cell (K : PySem.W.Frag) : TS :=
  (tSeq (tAsg (tOp (uAdd K) (tOp uMul (tC (.int 7919)) (tVar 1)) (tC (.int 11))) (gName 2))
  (tSeq (tIfS (tTest (tOp (uNe K) (tVar 0) (tLst tNil))) (tSeq (tAsg (tOp (uAdd K) (tOp uMul (tOp (rIx K) (tVar 0) (tOp uMod (tVar 1) (tCB (uLen K) (tCons (tVar 0) tNil)))) (tC (.int 48271))) (tOp uMul (tC (.int 104729)) (tVar 1))) (gName 2))
  (tAsg (tOp (uAdd K) (tVar 2) (tOp uMul (tOp uDiv (tVar 1) (tCB (uLen K) (tCons (tVar 0) tNil))) (tC (.int 7919)))) (gName 2))) tNext)
  (tSeq (tAsg (tOp uMod (tVar 2) (tC (.int 2147483647))) (gName 3))
  (tSeq (tAsg (tOp uMod (tOp uMul (tVar 3) (tVar 3)) (tC (.int 2147483629))) (gName 3))
  (tRet (tOp uMod (tOp (uAdd K) (tOp (uAdd K) (tOp uMul (tVar 3) (tVar 3)) (tOp uMul (tC (.int 69621)) (tVar 3))) (tVar 1)) (tC (.int 2147483587))))))))
theorem p__law_cell {P : Program} {w : World} {K : PySem.W.Frag} {mg : Str → Option Value} {base : Heap} {f : Addr} {k : Nat} (mz_len : mg "len" = none) (cdv : Value) (A : Around) (outer : List Env) (s : Shared) (H : Hp) (E : XK)
    (hr : Room k (A.deeper (envOfC "_law_cell" (defScope s__law_cell) s.heap.objs.size f cdv))) :
    PSs (cxOf CX0 P w K mg base ["_law_script", "_law_k", "_law_cell_here", "_law_more"] "_law_cell" (defScope s__law_cell) f cdv A outer s H E).nox (defBody s__law_cell) (T__law_cell K) :=
  (pss_cons (ps_set (i := 2) sc__law_cell.nd rfl (Or.inl rfl) (pe_op (ou_add rfl) (pe_op ou_mul pe_int (pv 1)) pe_int))
  (pss_cons (ps_if (pt_cmpR (ou_ne rfl (room64 hr)) (pv 0) (pe_lst pa_nil) (nomark _)) (pss_cons (ps_set (i := 2) sc__law_cell.nd rfl (Or.inl rfl) (pe_op (ou_add rfl) (pe_op ou_mul (pe_ix (ou_ix rfl) (pv 0) (pe_op ou_mod (pv 1) (pe_callB (cu_len rfl) (by rfl) mz_len (by decide +kernel) (pa_cons (pv 0) pa_nil))) (fun _ _ => rfl)) pe_int) (pe_op ou_mul pe_int (pv 1))))
  (pss_one (ps_set (i := 2) sc__law_cell.nd rfl (Or.inl rfl) (pe_op (ou_add rfl) (pv 2) (pe_op ou_mul (pe_op ou_div (pv 1) (pe_callB (cu_len rfl) (by rfl) mz_len (by decide +kernel) (pa_cons (pv 0) pa_nil))) pe_int))))) pss_nil)
  (pss_cons (ps_set (i := 3) sc__law_cell.nd rfl (Or.inl rfl) (pe_op ou_mod (pv 2) pe_int))
  (pss_cons (ps_set (i := 3) sc__law_cell.nd rfl (Or.inl rfl) (pe_op ou_mod (pe_op ou_mul (pv 3) (pv 3)) pe_int))
  (pss_one (ps_ret (pe_op ou_mod (pe_op (ou_add rfl) (pe_op (ou_add rfl) (pe_op ou_mul (pv 3) (pv 3)) (pe_op ou_mul pe_int (pv 3))) (pv 1)) pe_int)))))))
/-! _law_signs: slots  -/
abbrev s__law_signs : Stmt := topS 16
theorem sc__law_signs : FnScope [] [] (defScope s__law_signs) := ⟨rfl, rfl, rfl, by decide +kernel, rfl, by decide +kernel, by decide +kernel⟩
def T__law_signs (K : PySem.W.Frag) : TS :=
  (tRet (tC (.str (Str.ofString "!#$&()*+,-./:;<=>?@\x5b]^{|}~"))))
theorem p__law_signs {P : Program} {w : World} {K : PySem.W.Frag} {mg : Str → Option Value} {base : Heap} {f : Addr} {k : Nat} (cdv : Value) (A : Around) (outer : List Env) (s : Shared) (H : Hp) (E : XK)
    (hr : Room k (A.deeper (envOfC "_law_signs" (defScope s__law_signs) s.heap.objs.size f cdv))) :
    PSs (cxOf CX0 P w K mg base [] "_law_signs" (defScope s__law_signs) f cdv A outer s H E).nox (defBody s__law_signs) (T__law_signs K) :=
  (pss_one (ps_ret pe_str))
/-! _law_fixed_by: slots 0 _law_cell_here, 1 _law_letters, 2 _law_usual, 3 _law_step, 4 _law_k -/
abbrev s__law_fixed_by : Stmt := topS 17
theorem sc__law_fixed_by : FnScope ["_law_cell_here", "_law_letters", "_law_usual", "_law_step", "_law_k"] ["_law_cell_here"] (defScope s__law_fixed_by) := ⟨rfl, rfl, rfl, by decide +kernel, rfl, by decide +kernel, by decide +kernel⟩
def T__law_fixed_by (K : PySem.W.Frag) (sp__law_signs : Sp) : TS :=
  (tSeq (tAsg (tC (.str (Str.ofString "abcdefghijklmnopqrstuvwxyz"))) (gName 1))
  (tSeq (tAsg (tM1 uSplit (tC (.str (Str.ofString "if in then a ab < <= = == ( ) - -> + zz no > >="))) (tC (.str (Str.ofString " ")))) (gName 2))
  (tSeq (tIfS (tTest (tOp uGt (tOp uMod (tVar 0) (tC (.int 3))) (tC (.int 0)))) (tRet (tOp (rIx K) (tVar 2) (tOp uMod (tOp uDiv (tVar 0) (tC (.int 3))) (tC (.int 18))))) tNext)
  (tSeq (tIfS (tTest (tOp (uEq K) (tOp uMod (tOp uDiv (tVar 0) (tC (.int 3))) (tC (.int 2))) (tC (.int 0)))) (tSeq (tAsg (tOp (uAdd K) (tC (.int 1)) (tOp uMod (tOp uDiv (tVar 0) (tC (.int 78))) (tC (.int 25)))) (gName 3))
  (tRet (tM1 (uJoin K) (tC (.str (Str.ofString ""))) (tLc (iRng1 (tCons (tOp (uAdd K) (tC (.int 1)) (tOp uMod (tOp uDiv (tVar 0) (tC (.int 2000))) (tC (.int 8)))) tNil)) (gName 4) tYes (tOp (rIx K) (tVar 1) (tOp uMod (tOp (uAdd K) (tOp uDiv (tVar 0) (tC (.int 6))) (tOp uMul (tVar 4) (tVar 3))) (tC (.int 26)))) [4])))) tNext)
  (tSeq (tAsg (tOp uMod (tOp uDiv (tVar 0) (tC (.int 162))) (tC (.int 26))) (gName 3))
  (tRet (tM1 (uJoin K) (tC (.str (Str.ofString ""))) (tLc (iRng1 (tCons (tOp (uAdd K) (tC (.int 1)) (tOp uMod (tOp uDiv (tVar 0) (tC (.int 5000))) (tC (.int 3)))) tNil)) (gName 4) tYes (tOp (rIx K) (tCall sp__law_signs [] E0 tNil) (tOp uMod (tOp (uAdd K) (tOp uDiv (tVar 0) (tC (.int 6))) (tOp uMul (tVar 4) (tVar 3))) (tC (.int 26)))) [4]))))))))
theorem p__law_fixed_by {P : Program} {w : World} {K : PySem.W.Frag} {mg : Str → Option Value} {base : Heap} {f : Addr} {k : Nat} {sp__law_signs : Sp} (gd__law_signs : GD P w K mg base k "_law_signs" [] sp__law_signs) (mz_range : mg "range" = none) (cdv : Value) (A : Around) (outer : List Env) (s : Shared) (H : Hp) (E : XK)
    (hr : Room k (A.deeper (envOfC "_law_fixed_by" (defScope s__law_fixed_by) s.heap.objs.size f cdv))) :
    PSs (cxOf CX0 P w K mg base ["_law_cell_here", "_law_letters", "_law_usual", "_law_step", "_law_k"] "_law_fixed_by" (defScope s__law_fixed_by) f cdv A outer s H E).nox (defBody s__law_fixed_by) (T__law_fixed_by K sp__law_signs) :=
  (pss_cons (ps_set (i := 1) sc__law_fixed_by.nd rfl (Or.inr rfl) pe_str)
  (pss_cons (ps_set (i := 2) sc__law_fixed_by.nd rfl (Or.inl rfl) (pe_usplit pe_str pe_str))
  (pss_cons (ps_if (pt_cmpR ou_gt (pe_op ou_mod (pv 0) pe_int) pe_int (nomark _)) (pss_one (ps_ret (pe_ix (ou_ix rfl) (pv 2) (pe_op ou_mod (pe_op ou_div (pv 0) pe_int) pe_int) (fun _ _ => rfl)))) pss_nil)
  (pss_cons (ps_if (pt_cmpR (ou_eq rfl (room64 hr)) (pe_op ou_mod (pe_op ou_div (pv 0) pe_int) pe_int) pe_int (nomark _)) (pss_cons (ps_set (i := 3) sc__law_fixed_by.nd rfl (Or.inr rfl) (pe_op (ou_add rfl) pe_int (pe_op ou_mod (pe_op ou_div (pv 0) pe_int) pe_int)))
  (pss_one (ps_ret (pe_ujoin rfl pe_str (pe_lc (own := [("_law_k", 4)]) (g := (gName 4)) (tt := tYes) (te := (tOp (rIx K) (tVar 1) (tOp uMod (tOp (uAdd K) (tOp uDiv (tVar 0) (tC (.int 6))) (tOp uMul (tVar 4) (tVar 3))) (tC (.int 26))))) rfl sc__law_fixed_by.nd (pi_range1 (by rfl) mz_range (pa_cons (pe_op (ou_add rfl) pe_int (pe_op ou_mod (pe_op ou_div (pv 0) pe_int) pe_int)) pa_nil)) (blkOk_by (own := [("_law_k", 4)]) (N := ["_law_cell_here", "_law_letters", "_law_usual", "_law_step", "_law_k"]) (sc := defScope s__law_fixed_by) (by decide +kernel)) (fun _ _ _ _ _ => (pg_name (i := 4) sc__law_fixed_by.nd rfl (by first | exact Or.inl rfl | exact Or.inr rfl))) (fun _ _ _ _ _ => pts_nil) (fun _ _ _ _ _ => (pe_ix (ou_ix rfl) (pv 1) (pe_op ou_mod (pe_op (ou_add rfl) (pe_op ou_div (pv 0) pe_int) (pe_op ou_mul (pv 4) (pv 3))) pe_int) (fun _ _ => rfl)))))))) pss_nil)
  (pss_cons (ps_set (i := 3) sc__law_fixed_by.nd rfl (Or.inr rfl) (pe_op ou_mod (pe_op ou_div (pv 0) pe_int) pe_int))
  (pss_one (ps_ret (pe_ujoin rfl pe_str (pe_lc (own := [("_law_k", 4)]) (g := (gName 4)) (tt := tYes) (te := (tOp (rIx K) (tCall sp__law_signs [] E0 tNil) (tOp uMod (tOp (uAdd K) (tOp uDiv (tVar 0) (tC (.int 6))) (tOp uMul (tVar 4) (tVar 3))) (tC (.int 26))))) rfl sc__law_fixed_by.nd (pi_range1 (by rfl) mz_range (pa_cons (pe_op (ou_add rfl) pe_int (pe_op ou_mod (pe_op ou_div (pv 0) pe_int) pe_int)) pa_nil)) (blkOk_by (own := [("_law_k", 4)]) (N := ["_law_cell_here", "_law_letters", "_law_usual", "_law_step", "_law_k"]) (sc := defScope s__law_fixed_by) (by decide +kernel)) (fun _ _ _ _ _ => (pg_name (i := 4) sc__law_fixed_by.nd rfl (by first | exact Or.inl rfl | exact Or.inr rfl))) (fun _ _ _ _ _ => pts_nil) (fun _ _ _ _ _ => (pe_ix (ou_ix rfl) (pe_gd0 gd__law_signs hr (by rfl)) (pe_op ou_mod (pe_op (ou_add rfl) (pe_op ou_div (pv 0) pe_int) (pe_op ou_mul (pv 4) (pv 3))) pe_int) (fun _ _ => rfl))))))))))))
/-! _law_piece: slots 0 _law_cell_here, 1 _law_fixed, 2 _law_some -/
abbrev s__law_piece : Stmt := topS 18
theorem sc__law_piece : FnScope ["_law_cell_here", "_law_fixed", "_law_some"] ["_law_cell_here", "_law_fixed"] (defScope s__law_piece) := ⟨rfl, rfl, rfl, by decide +kernel, rfl, by decide +kernel, by decide +kernel⟩
def T__law_piece (K : PySem.W.Frag) : TS :=
  (tSeq (tAsg (tLst (tCons (tC (.str (Str.ofString " "))) (tCons (tC (.str (Str.ofString "  "))) (tCons (tC (.str (Str.ofString "\t"))) (tCons (tC (.str (Str.ofString "\n"))) (tCons (tC (.str (Str.ofString "12"))) (tCons (tC (.str (Str.ofString "0"))) (tCons (tC (.str (Str.ofString "abc"))) (tCons (tC (.str (Str.ofString "iffy"))) (tCons (tC (.str (Str.ofString "a"))) (tCons (tC (.str (Str.ofString "\"q r\""))) (tCons (tC (.str (Str.ofString "\"\""))) (tCons (tC (.str (Str.ofString "7a"))) (tCons (tC (.str (Str.ofString "x9"))) (tCons (tC (.str (Str.ofString "<="))) (tCons (tC (.str (Str.ofString "<"))) (tCons (tC (.str (Str.ofString "("))) tNil))))))))))))))))) (gName 2))
  (tSeq (tIfS (tAnd (tTest (tOp (uEq K) (tOp uMod (tVar 0) (tC (.int 3))) (tC (.int 0)))) (tTest (tOp (uNe K) (tVar 1) (tLst tNil)))) (tRet (tOp (rIx K) (tVar 1) (tOp uMod (tOp uDiv (tVar 0) (tC (.int 3))) (tCB (uLen K) (tCons (tVar 1) tNil))))) tNext)
  (tSeq (tIfS (tTest (tOp (uEq K) (tOp uMod (tVar 0) (tC (.int 41))) (tC (.int 1)))) (tRet (tOp (rIx K) (tLst (tCons (tC (.str (Str.ofString "\""))) (tCons (tC (.str (Str.ofString "_"))) (tCons (tC (.str (Str.ofString "A"))) (tCons (tC (.str (Str.ofString "\"a\nb\""))) (tCons (tC (.str (Str.ofString "'"))) (tCons (tC (.str (Str.ofString "\\"))) tNil))))))) (tOp uMod (tOp uDiv (tVar 0) (tC (.int 41))) (tC (.int 6))))) tNext)
  (tRet (tOp (rIx K) (tVar 2) (tOp uMod (tOp uDiv (tVar 0) (tC (.int 3))) (tC (.int 16))))))))
theorem p__law_piece {P : Program} {w : World} {K : PySem.W.Frag} {mg : Str → Option Value} {base : Heap} {f : Addr} {k : Nat} (mz_len : mg "len" = none) (cdv : Value) (A : Around) (outer : List Env) (s : Shared) (H : Hp) (E : XK)
    (hr : Room k (A.deeper (envOfC "_law_piece" (defScope s__law_piece) s.heap.objs.size f cdv))) :
    PSs (cxOf CX0 P w K mg base ["_law_cell_here", "_law_fixed", "_law_some"] "_law_piece" (defScope s__law_piece) f cdv A outer s H E).nox (defBody s__law_piece) (T__law_piece K) :=
  (pss_cons (ps_set (i := 2) sc__law_piece.nd rfl (Or.inl rfl) (pe_lst (pa_cons pe_str (pa_cons pe_str (pa_cons pe_str (pa_cons pe_str (pa_cons pe_str (pa_cons pe_str (pa_cons pe_str (pa_cons pe_str (pa_cons pe_str (pa_cons pe_str (pa_cons pe_str (pa_cons pe_str (pa_cons pe_str (pa_cons pe_str (pa_cons pe_str (pa_cons pe_str pa_nil))))))))))))))))))
  (pss_cons (ps_if (PW.pt (pw_and (pt_cmpR (ou_eq rfl (room64 hr)) (pe_op ou_mod (pv 0) pe_int) pe_int (nomark _)) (pw_and1 (pt_cmpR (ou_ne rfl (room64 hr)) (pv 1) (pe_lst pa_nil) (nomark _))))) (pss_one (ps_ret (pe_ix (ou_ix rfl) (pv 1) (pe_op ou_mod (pe_op ou_div (pv 0) pe_int) (pe_callB (cu_len rfl) (by rfl) mz_len (by decide +kernel) (pa_cons (pv 1) pa_nil))) (fun _ _ => rfl)))) pss_nil)
  (pss_cons (ps_if (pt_cmpR (ou_eq rfl (room64 hr)) (pe_op ou_mod (pv 0) pe_int) pe_int (nomark _)) (pss_one (ps_ret (pe_ix (ou_ix rfl) (pe_lst (pa_cons pe_str (pa_cons pe_str (pa_cons pe_str (pa_cons pe_str (pa_cons pe_str (pa_cons pe_str pa_nil))))))) (pe_op ou_mod (pe_op ou_div (pv 0) pe_int) pe_int) (fun _ _ => rfl)))) pss_nil)
  (pss_one (ps_ret (pe_ix (ou_ix rfl) (pv 2) (pe_op ou_mod (pe_op ou_div (pv 0) pe_int) pe_int) (fun _ _ => rfl)))))))
/-! _law_run: slots 0 _law_text, 1 _law_at, 2 _law_signs_here, 3 _law_end -/
abbrev s__law_run : Stmt := topS 19
theorem sc__law_run : FnScope ["_law_text", "_law_at", "_law_signs_here", "_law_end"] ["_law_text", "_law_at", "_law_signs_here"] (defScope s__law_run) := ⟨rfl, rfl, rfl, by decide +kernel, rfl, by decide +kernel, by decide +kernel⟩
def T__law_run (K : PySem.W.Frag) : TS :=
  (tSeq (tAsg (tVar 1) (gName 3))
  (tSeq (tWhile (tAnd (tTest (tOp uLt (tVar 3) (tCB (uLen K) (tCons (tVar 0) tNil)))) (tTest (tOp (uIn K) (tOp (rIx K) (tVar 0) (tVar 3)) (tVar 2)))) (tAsg (tOp (uAdd K) (tVar 3) (tC (.int 1))) (gName 3)))
  (tRet (tOp uSub (tVar 3) (tVar 1)))))
theorem p__law_run {P : Program} {w : World} {K : PySem.W.Frag} {mg : Str → Option Value} {base : Heap} {f : Addr} {k : Nat} (mz_len : mg "len" = none) (cdv : Value) (A : Around) (outer : List Env) (s : Shared) (H : Hp) (E : XK)
    (hr : Room k (A.deeper (envOfC "_law_run" (defScope s__law_run) s.heap.objs.size f cdv))) :
    PSs (cxOf CX0 P w K mg base ["_law_text", "_law_at", "_law_signs_here", "_law_end"] "_law_run" (defScope s__law_run) f cdv A outer s H E).nox (defBody s__law_run) (T__law_run K) :=
  (pss_cons (ps_set (i := 3) sc__law_run.nd rfl (Or.inl rfl) (pv 1))
  (pss_cons (ps_while PassesOwn.never (PW.pt (pw_and (pt_cmpR ou_lt (pv 3) (pe_callB (cu_len rfl) (by rfl) mz_len (by decide +kernel) (pa_cons (pv 0) pa_nil)) (nomark _)) (pw_and1 (pt_cmpR (ou_in rfl (room65 hr)) (pe_ix (ou_ix rfl) (pv 0) (pv 3) (fun _ _ => rfl)) (pv 2) (by rfl))))) (pss_one (ps_set (i := 3) sc__law_run.nd rfl (Or.inl rfl) (pe_op (ou_add rfl) (pv 3) pe_int))))
  (pss_one (ps_ret (pe_op ou_sub (pv 3) (pv 1))))))
/-! _law_stands: slots 0 _law_text, 1 _law_at, 2 _law_fixed, 3 _law_found, 4 _law_behind, 5 _law_word -/
abbrev s__law_stands : Stmt := topS 20
theorem sc__law_stands : FnScope ["_law_text", "_law_at", "_law_fixed", "_law_found", "_law_behind", "_law_word"] ["_law_text", "_law_at", "_law_fixed"] (defScope s__law_stands) := ⟨rfl, rfl, rfl, by decide +kernel, rfl, by decide +kernel, by decide +kernel⟩
def T__law_stands (K : PySem.W.Frag) (sp__law_run : Sp) : TS :=
  (tSeq (tAsg (tLc (iU K (tVar 2)) (gName 5) (tTest (tOp (uEq K) (tSl (uSl K) (tVar 0) (tPart (tVar 1)) (tPart (tOp (uAdd K) (tVar 1) (tCB (uLen K) (tCons (tVar 5) tNil))))) (tVar 5))) (tTup (tCons (tCB (uLen K) (tCons (tVar 5) tNil)) (tCons (tC (.int 1)) (tCons (tOp (uAdd K) (tC (.str (Str.ofString "'"))) (tVar 5)) tNil)))) [5]) (gName 3))
  (tSeq (tDrop (tBM K "list" rAppend (tVar 3) (tCons (tTup (tCons (tCall sp__law_run [] E0 (tCons (tVar 0) (tCons (tVar 1) (tCons (tC (.str (Str.ofString "abcdefghijklmnopqrstuvwxyz"))) tNil)))) (tCons (tC (.int 0)) (tCons (tC (.str (Str.ofString "NAME"))) tNil)))) tNil)))
  (tSeq (tDrop (tBM K "list" rAppend (tVar 3) (tCons (tTup (tCons (tCall sp__law_run [] E0 (tCons (tVar 0) (tCons (tVar 1) (tCons (tC (.str (Str.ofString "0123456789"))) tNil)))) (tCons (tC (.int 0)) (tCons (tC (.str (Str.ofString "NUMBER"))) tNil)))) tNil)))
  (tSeq (tIfS (tTest (tOp (uEq K) (tOp (rIx K) (tVar 0) (tVar 1)) (tC (.str (Str.ofString "\""))))) (tSeq (tAsg (tM1 uSplit (tSl (uSl K) (tVar 0) (tPart (tOp (uAdd K) (tVar 1) (tC (.int 1)))) tNoPart) (tC (.str (Str.ofString "\"")))) (gName 4))
  (tIfS (tAnd (tTest (tOp uGt (tCB (uLen K) (tCons (tVar 4) tNil)) (tC (.int 1)))) (tTest (tOp (uNotIn K) (tC (.str (Str.ofString "\n"))) (tOp (rIx K) (tVar 4) (tC (.int 0)))))) (tDrop (tBM K "list" rAppend (tVar 3) (tCons (tTup (tCons (tOp (uAdd K) (tCB (uLen K) (tCons (tOp (rIx K) (tVar 4) (tC (.int 0))) tNil)) (tC (.int 2))) (tCons (tC (.int 0)) (tCons (tC (.str (Str.ofString "QUOTE"))) tNil)))) tNil))) tNext)) tNext)
  (tRet (tVar 3))))))
theorem p__law_stands {P : Program} {w : World} {K : PySem.W.Frag} {mg : Str → Option Value} {base : Heap} {f : Addr} {k : Nat} {sp__law_run : Sp} (gd__law_run : GD P w K mg base k "_law_run" ["_law_text", "_law_at", "_law_signs_here"] sp__law_run) (mz_len : mg "len" = none) (cdv : Value) (A : Around) (outer : List Env) (s : Shared) (H : Hp) (E : XK)
    (hr : Room k (A.deeper (envOfC "_law_stands" (defScope s__law_stands) s.heap.objs.size f cdv))) :
    PSs (cxOf CX0 P w K mg base ["_law_text", "_law_at", "_law_fixed", "_law_found", "_law_behind", "_law_word"] "_law_stands" (defScope s__law_stands) f cdv A outer s H E).nox (defBody s__law_stands) (T__law_stands K sp__law_run) :=
  (pss_cons (ps_setLc (i := 3) (own := [("_law_word", 5)]) (g := (gName 5)) (tt := (tTest (tOp (uEq K) (tSl (uSl K) (tVar 0) (tPart (tVar 1)) (tPart (tOp (uAdd K) (tVar 1) (tCB (uLen K) (tCons (tVar 5) tNil))))) (tVar 5)))) (te := (tTup (tCons (tCB (uLen K) (tCons (tVar 5) tNil)) (tCons (tC (.int 1)) (tCons (tOp (uAdd K) (tC (.str (Str.ofString "'"))) (tVar 5)) tNil))))) rfl sc__law_stands.nd rfl rfl (sw_true rfl rfl rfl (by decide +kernel)) (pi_u rfl (pv 2)) (blkOk_by (own := [("_law_word", 5)]) (N := ["_law_text", "_law_at", "_law_fixed", "_law_found", "_law_behind", "_law_word"]) (sc := defScope s__law_stands) (by decide +kernel)) (fun _ _ _ _ _ => (pg_name (i := 5) sc__law_stands.nd rfl (by first | exact Or.inl rfl | exact Or.inr rfl))) (fun _ _ _ _ _ => (pts_one (pt_cmpR (ou_eq rfl (room64 hr)) (pe_slice (ou_sl rfl) (pv 0) (po_some (pv 1)) (po_some (pe_op (ou_add rfl) (pv 1) (pe_callB (cu_len rfl) (by rfl) mz_len (by decide +kernel) (pa_cons (pv 5) pa_nil))))) (pv 5) (nomark _)))) (fun _ _ _ _ _ => (pe_tup (pa_cons (pe_callB (cu_len rfl) (by rfl) mz_len (by decide +kernel) (pa_cons (pv 5) pa_nil)) (pa_cons pe_int (pa_cons (pe_op (ou_add rfl) pe_str (pv 5)) pa_nil))))))
  (pss_cons (ps_expr (pe_bm PySem.F.plainAttrs_list PySem.F.slot_list_append PySem.F.type_list_append mt_append (pv 3) (pa_cons (pe_tup (pa_cons (pe_gd gd__law_run hr (by rfl) (pa_cons (pv 0) (pa_cons (pv 1) (pa_cons pe_str pa_nil)))) (pa_cons pe_int (pa_cons pe_str pa_nil)))) pa_nil)))
  (pss_cons (ps_expr (pe_bm PySem.F.plainAttrs_list PySem.F.slot_list_append PySem.F.type_list_append mt_append (pv 3) (pa_cons (pe_tup (pa_cons (pe_gd gd__law_run hr (by rfl) (pa_cons (pv 0) (pa_cons (pv 1) (pa_cons pe_str pa_nil)))) (pa_cons pe_int (pa_cons pe_str pa_nil)))) pa_nil)))
  (pss_cons (ps_if (pt_cmpR (ou_eq rfl (room64 hr)) (pe_ix (ou_ix rfl) (pv 0) (pv 1) (fun _ _ => rfl)) pe_str (nomark _)) (pss_cons (ps_set (i := 4) sc__law_stands.nd rfl (Or.inl rfl) (pe_usplit (pe_slice (ou_sl rfl) (pv 0) (po_some (pe_op (ou_add rfl) (pv 1) pe_int)) po_none) pe_str))
  (pss_one (ps_if (PW.pt (pw_and (pt_cmpR ou_gt (pe_callB (cu_len rfl) (by rfl) mz_len (by decide +kernel) (pa_cons (pv 4) pa_nil)) pe_int (nomark _)) (pw_and1 (pt_cmpR (ou_notin rfl (room65 hr)) pe_str (pe_ix (ou_ix rfl) (pv 4) pe_int (fun _ _ => rfl)) (by rfl))))) (pss_one (ps_expr (pe_bm PySem.F.plainAttrs_list PySem.F.slot_list_append PySem.F.type_list_append mt_append (pv 3) (pa_cons (pe_tup (pa_cons (pe_op (ou_add rfl) (pe_callB (cu_len rfl) (by rfl) mz_len (by decide +kernel) (pa_cons (pe_ix (ou_ix rfl) (pv 4) pe_int (fun _ _ => rfl)) pa_nil)) pe_int) (pa_cons pe_int (pa_cons pe_str pa_nil)))) pa_nil)))) pss_nil))) pss_nil)
  (pss_one (ps_ret (pv 3)))))))
/-! _law_cut: slots 0 _law_text, 1 _law_fixed, 2 _law_found, 3 _law_at, 4 _law_many, 5 _law_own, 6 _law_kind -/
abbrev s__law_cut : Stmt := topS 21
theorem sc__law_cut : FnScope ["_law_text", "_law_fixed", "_law_found", "_law_at", "_law_many", "_law_own", "_law_kind"] ["_law_text", "_law_fixed"] (defScope s__law_cut) := ⟨rfl, rfl, rfl, by decide +kernel, rfl, by decide +kernel, by decide +kernel⟩
def T__law_cut (K : PySem.W.Frag) (sp__law_stands : Sp) : TS :=
  (tSeq (tAsg (tLst tNil) (gName 2))
  (tSeq (tAsg (tC (.int 0)) (gName 3))
  (tSeq (tWhile (tTest (tOp uLt (tVar 3) (tCB (uLen K) (tCons (tVar 0) tNil)))) (tSeq (tIfS (tTest (tOp (uIn K) (tOp (rIx K) (tVar 0) (tVar 3)) (tC (.str (Str.ofString " \t\n"))))) (tSeq (tAsg (tOp (uAdd K) (tVar 3) (tC (.int 1))) (gName 3))
  tCont) tNext)
  (tSeq (tAsg (tCB (uMaxU K) (tCons (tCall sp__law_stands [] E0 (tCons (tVar 0) (tCons (tVar 3) (tCons (tVar 1) tNil)))) tNil)) (gTup K 3 (gCons (gName 4) (gCons (gName 5) (gCons (gName 6) gNil)))))
  (tSeq (tIfS (tTest (tOp (uEq K) (tVar 4) (tC (.int 0)))) (tRet (tVar 3)) tNext)
  (tSeq (tDrop (tBM K "list" rAppend (tVar 2) (tCons (tTup (tCons (tVar 6) (tCons (tSl (uSl K) (tVar 0) (tPart (tVar 3)) (tPart (tOp (uAdd K) (tVar 3) (tVar 4)))) (tCons (tVar 3) tNil)))) tNil)))
  (tAsg (tOp (uAdd K) (tVar 3) (tVar 4)) (gName 3)))))))
  (tRet (tVar 2)))))
theorem p__law_cut {P : Program} {w : World} {K : PySem.W.Frag} {mg : Str → Option Value} {base : Heap} {f : Addr} {k : Nat} {sp__law_stands : Sp} (gd__law_stands : GD P w K mg base k "_law_stands" ["_law_text", "_law_at", "_law_fixed"] sp__law_stands) (mz_len : mg "len" = none) (mz_max : mg "max" = none) (cdv : Value) (A : Around) (outer : List Env) (s : Shared) (H : Hp) (E : XK)
    (hr : Room k (A.deeper (envOfC "_law_cut" (defScope s__law_cut) s.heap.objs.size f cdv))) :
    PSs (cxOf CX0 P w K mg base ["_law_text", "_law_fixed", "_law_found", "_law_at", "_law_many", "_law_own", "_law_kind"] "_law_cut" (defScope s__law_cut) f cdv A outer s H E).nox (defBody s__law_cut) (T__law_cut K sp__law_stands) :=
  (pss_cons (ps_set (i := 2) sc__law_cut.nd rfl (Or.inl rfl) (pe_lst pa_nil))
  (pss_cons (ps_set (i := 3) sc__law_cut.nd rfl (Or.inl rfl) pe_int)
  (pss_cons (ps_while PassesOwn.never (pt_cmpR ou_lt (pv 3) (pe_callB (cu_len rfl) (by rfl) mz_len (by decide +kernel) (pa_cons (pv 0) pa_nil)) (nomark _)) (pss_cons (ps_if (pt_cmpR (ou_in rfl (room65 hr)) (pe_ix (ou_ix rfl) (pv 0) (pv 3) (fun _ _ => rfl)) pe_str (by rfl)) (pss_cons (ps_set (i := 3) sc__law_cut.nd rfl (Or.inl rfl) (pe_op (ou_add rfl) (pv 3) pe_int))
  (pss_one ps_continue)) pss_nil)
  (pss_cons (ps_asg (pe_callB (cu_maxU rfl rfl (room64 hr)) (by rfl) mz_max (by decide +kernel) (pa_cons (pe_gd gd__law_stands hr (by rfl) (pa_cons (pv 0) (pa_cons (pv 3) (pa_cons (pv 1) pa_nil)))) pa_nil)) (pg_tup (by rfl) (pgs_cons (pg_name (i := 4) sc__law_cut.nd rfl (by first | exact Or.inl rfl | exact Or.inr rfl)) (pgs_cons (pg_name (i := 5) sc__law_cut.nd rfl (by first | exact Or.inl rfl | exact Or.inr rfl)) (pgs_cons (pg_name (i := 6) sc__law_cut.nd rfl (by first | exact Or.inl rfl | exact Or.inr rfl)) pgs_nil)))))
  (pss_cons (ps_if (pt_cmpR (ou_eq rfl (room64 hr)) (pv 4) pe_int (nomark _)) (pss_one (ps_ret (pv 3))) pss_nil)
  (pss_cons (ps_expr (pe_bm PySem.F.plainAttrs_list PySem.F.slot_list_append PySem.F.type_list_append mt_append (pv 2) (pa_cons (pe_tup (pa_cons (pv 6) (pa_cons (pe_slice (ou_sl rfl) (pv 0) (po_some (pv 3)) (po_some (pe_op (ou_add rfl) (pv 3) (pv 4)))) (pa_cons (pv 3) pa_nil)))) pa_nil)))
  (pss_one (ps_set (i := 3) sc__law_cut.nd rfl (Or.inl rfl) (pe_op (ou_add rfl) (pv 3) (pv 4)))))))))
  (pss_one (ps_ret (pv 2))))))
/-! _law_told: slots 0 _law_text, 1 _law_fixed, 2 _law_found, 3 _law_refused, 4 e, 5 _law_good -/
abbrev s__law_told : Stmt := topS 22
theorem sc__law_told : FnScope ["_law_text", "_law_fixed", "_law_found", "_law_refused", "e", "_law_good"] ["_law_text", "_law_fixed"] (defScope s__law_told) := ⟨rfl, rfl, rfl, by decide +kernel, rfl, by decide +kernel, by decide +kernel⟩
def T__law_told (K : PySem.W.Frag) (sp_cut : Sp) (x_NoWord : Addr) (x_GrammarError : Addr) (W : WX) : TS :=
  (tSeq (tAsg (tC .non) (gName 2))
  (tSeq (tAsg (tC .non) (gName 3))
  (tSeq (tTry K (.ref x_NoWord) 4 (fun W => (tAsg (tCallSD sp_cut [] (WE W) (tCons (tVar 0) (tCons (tVar 1) tNil))) (gName 2))) (tAsg (tVar 4) (gName 3)) W)
  (tSeq (tIfS (tTest (tOp uIs (tVar 3) (tC .non))) (tRet (tVar 2)) tNext)
  (tSeq (tAsg (tAndV (tCB (uIsi K) (tCons (tVar 3) (tCons (tC (.ref x_GrammarError)) tNil))) (tCB (uIsi K) (tCons (tVar 3) (tCons (tC (.ty "ValueError")) tNil)))) (gName 5))
  (tRet (tIf (tTru K (tVar 5)) (tAt K "place" (tVar 3)) (tC .non))))))))
theorem p__law_told {P : Program} {w : World} {K : PySem.W.Frag} {mg : Str → Option Value} {base : Heap} {f : Addr} {k : Nat} {sp_cut : Sp} (gd_cut : GX P w K mg base k "cut" ["text", "fixed"] sp_cut) {x_NoWord : Addr} {x_GrammarError : Addr} (mg_NoWord : mg "NoWord" = some (.ref x_NoWord)) (mg_GrammarError : mg "GrammarError" = some (.ref x_GrammarError)) (mz_isinstance : mg "isinstance" = none) (mz_ValueError : mg "ValueError" = none) (cdv : Value) (A : Around) (outer : List Env) (s : Shared) (H : Hp) (E : XK)
    (hr : Room k (A.deeper (envOfC "_law_told" (defScope s__law_told) s.heap.objs.size f cdv))) :
    PSs (cxOf (L2.CX P w) P w K mg base ["_law_text", "_law_fixed", "_law_found", "_law_refused", "e", "_law_good"] "_law_told" (defScope s__law_told) f cdv A outer s H E) (defBody s__law_told) (T__law_told K sp_cut x_NoWord x_GrammarError (fun cls d _ H => E cls d H)) :=
  (pss_cons (ps_set (i := 2) sc__law_told.nd rfl (Or.inl rfl) pe_non)
  (pss_cons (ps_set (i := 3) sc__law_told.nd rfl (Or.inl rfl) pe_non)
  (pss_cons (ps_tryK rfl rfl rfl rfl sc__law_told.nd rfl rfl ⟨rfl, by decide, .inl mg_NoWord⟩ (takes_of rfl rfl rfl rfl) (fun W pn xe tk _ => (pss_one (ps_set (i := 2) sc__law_told.nd rfl (Or.inl rfl) (pe_gx gd_cut tk hr (by rfl) (pa_cons (pv 0) (pa_cons (pv 1) pa_nil)))))) (fun a pn => (pss_one (ps_set (i := 3) sc__law_told.nd rfl (Or.inl rfl) (pv 4)))))
  (pss_cons (ps_if (pt_cmpR ou_is (pv 3) pe_non (nomark _)) (pss_one (ps_ret (pv 2))) pss_nil)
  (pss_cons (ps_set (i := 5) sc__law_told.nd rfl (Or.inl rfl) (pe_and (pe_callB (cu_isiU rfl) (by rfl) mz_isinstance (by decide +kernel) (pa_cons (pv 3) (pa_cons (pe_glob (by rfl) mg_GrammarError rfl) pa_nil))) (pe_one (pe_callB (cu_isiU rfl) (by rfl) mz_isinstance (by decide +kernel) (pa_cons (pv 3) (pa_cons (pe_bltn (v := .ty "ValueError") (by rfl) mz_ValueError (by decide +kernel) rfl) pa_nil))))))
  (pss_one (ps_ret (pe_ifExp (pt_any rfl (pv 5)) (pe_at rfl (pv 3)) pe_non))))))))
/-! _law_alike: slots 0 _law_found, 1 _law_due, 2 _law_one, 3 _law_other -/
abbrev s__law_alike : Stmt := topS 23
theorem sc__law_alike : FnScope ["_law_found", "_law_due", "_law_one", "_law_other"] ["_law_found", "_law_due"] (defScope s__law_alike) := ⟨rfl, rfl, rfl, by decide +kernel, rfl, by decide +kernel, by decide +kernel⟩
def T__law_alike (K : PySem.W.Frag) : TS :=
  (tSeq (tIfS (tTru K (tCB (uIsi K) (tCons (tVar 1) (tCons (tC (.ty "int")) tNil)))) (tRet (tAndV (tCB (uIsi K) (tCons (tVar 0) (tCons (tC (.ty "int")) tNil))) (tAndV (tNotV (tCB (uIsi K) (tCons (tVar 0) (tCons (tC (.ty "bool")) tNil)))) (tOp (uEq K) (tVar 0) (tVar 1))))) tNext)
  (tSeq (tIfS (tOr (tNot (tTru K (tCB (uIsi K) (tCons (tVar 0) (tCons (tC (.ty "list")) tNil))))) (tTest (tOp (uNe K) (tCB (uLen K) (tCons (tVar 0) tNil)) (tCB (uLen K) (tCons (tVar 1) tNil))))) (tRet (tC (.bl false))) tNext)
  (tSeq (tFor (iZip K (tCons (tVar 0) (tCons (tVar 1) tNil))) (gTup K 2 (gCons (gName 2) (gCons (gName 3) gNil))) (tIfS (tOr (tNot (tTru K (tCB (uIsi K) (tCons (tVar 2) (tCons (tC (.ty "tuple")) tNil))))) (tOr (tTest (tOp (uNe K) (tVar 2) (tVar 3))) (tTru K (tCB (uIsi K) (tCons (tOp (rIx K) (tVar 2) (tC (.int 2))) (tCons (tC (.ty "bool")) tNil)))))) (tRet (tC (.bl false))) tNext))
  (tRet (tC (.bl true))))))
theorem p__law_alike {P : Program} {w : World} {K : PySem.W.Frag} {mg : Str → Option Value} {base : Heap} {f : Addr} {k : Nat} (mz_isinstance : mg "isinstance" = none) (mz_int : mg "int" = none) (mz_bool : mg "bool" = none) (mz_list : mg "list" = none) (mz_len : mg "len" = none) (mz_zip : mg "zip" = none) (mz_tuple : mg "tuple" = none) (cdv : Value) (A : Around) (outer : List Env) (s : Shared) (H : Hp) (E : XK)
    (hr : Room k (A.deeper (envOfC "_law_alike" (defScope s__law_alike) s.heap.objs.size f cdv))) :
    PSs (cxOf CX0 P w K mg base ["_law_found", "_law_due", "_law_one", "_law_other"] "_law_alike" (defScope s__law_alike) f cdv A outer s H E).nox (defBody s__law_alike) (T__law_alike K) :=
  (pss_cons (ps_if (pt_any rfl (pe_callB (cu_isiU rfl) (by rfl) mz_isinstance (by decide +kernel) (pa_cons (pv 1) (pa_cons (pe_bltn (v := .ty "int") (by rfl) mz_int (by decide +kernel) rfl) pa_nil)))) (pss_one (ps_ret (pe_and (pe_callB (cu_isiU rfl) (by rfl) mz_isinstance (by decide +kernel) (pa_cons (pv 0) (pa_cons (pe_bltn (v := .ty "int") (by rfl) mz_int (by decide +kernel) rfl) pa_nil))) (pe_and (pe_not (pe_callB (cu_isiU rfl) (by rfl) mz_isinstance (by decide +kernel) (pa_cons (pv 0) (pa_cons (pe_bltn (v := .ty "bool") (by rfl) mz_bool (by decide +kernel) rfl) pa_nil)))) (pe_one (pe_cmpR (ou_eq rfl (room64 hr)) (pv 0) (pv 1) (nomark _))))))) pss_nil)
  (pss_cons (ps_if (PW.pt (pw_or (pt_not (pt_any rfl (pe_callB (cu_isiU rfl) (by rfl) mz_isinstance (by decide +kernel) (pa_cons (pv 0) (pa_cons (pe_bltn (v := .ty "list") (by rfl) mz_list (by decide +kernel) rfl) pa_nil))))) (pw_or1 (pt_cmpR (ou_ne rfl (room64 hr)) (pe_callB (cu_len rfl) (by rfl) mz_len (by decide +kernel) (pa_cons (pv 0) pa_nil)) (pe_callB (cu_len rfl) (by rfl) mz_len (by decide +kernel) (pa_cons (pv 1) pa_nil)) (nomark _))))) (pss_one (ps_ret pe_bl)) pss_nil)
  (pss_cons (ps_for PassesOwn.never rfl (pi_zipU rfl (by rfl) mz_zip (pa_cons (pv 0) (pa_cons (pv 1) pa_nil))) (pg_tup (by rfl) (pgs_cons (pg_name (i := 2) sc__law_alike.nd rfl (by first | exact Or.inl rfl | exact Or.inr rfl)) (pgs_cons (pg_name (i := 3) sc__law_alike.nd rfl (by first | exact Or.inl rfl | exact Or.inr rfl)) pgs_nil))) (pss_one (ps_if (PW.pt (pw_or (pt_not (pt_any rfl (pe_callB (cu_isiU rfl) (by rfl) mz_isinstance (by decide +kernel) (pa_cons (pv 2) (pa_cons (pe_bltn (v := .ty "tuple") (by rfl) mz_tuple (by decide +kernel) rfl) pa_nil))))) (pw_or (pt_cmpR (ou_ne rfl (room64 hr)) (pv 2) (pv 3) (nomark _)) (pw_or1 (pt_any rfl (pe_callB (cu_isiU rfl) (by rfl) mz_isinstance (by decide +kernel) (pa_cons (pe_ix (ou_ix rfl) (pv 2) pe_int (fun _ _ => rfl)) (pa_cons (pe_bltn (v := .ty "bool") (by rfl) mz_bool (by decide +kernel) rfl) pa_nil)))))))) (pss_one (ps_ret pe_bl)) pss_nil)))
  (pss_one (ps_ret pe_bl)))))
/-! law: slots 0 _law_script, 1 _law_fixed, 2 _law_handed, 3 _law_pieces, 4 _law_text, 5 _law_due, 6 _law_found, 7 _law_k, 8 _law_part -/
abbrev s_law : Stmt := topS 24
theorem sc_law : FnScope ["_law_script", "_law_fixed", "_law_handed", "_law_pieces", "_law_text", "_law_due", "_law_found", "_law_k", "_law_part"] ["_law_script"] (defScope s_law) := ⟨rfl, rfl, rfl, by decide +kernel, rfl, by decide +kernel, by decide +kernel⟩
def T_law (K : PySem.W.Frag) (sp__law_cell : Sp) (sp__law_fixed_by : Sp) (sp__law_piece : Sp) (sp__law_cut : Sp) (sp__law_told : Sp) (sp__law_alike : Sp) : TS :=
  (tSeq (tAsg (tLc (iRng1 (tCons (tOp uMod (tCall sp__law_cell [] E0 (tCons (tVar 0) (tCons (tC (.int 0)) tNil))) (tC (.int 7))) tNil)) (gName 7) tYes (tCall sp__law_fixed_by [] E0 (tCons (tCall sp__law_cell [] E0 (tCons (tVar 0) (tCons (tOp (uAdd K) (tC (.int 700)) (tVar 7)) tNil))) tNil)) [7]) (gName 1))
  (tSeq (tAsg (tCB (uList K) (tCons (tVar 1) tNil)) (gName 2))
  (tSeq (tAsg (tLc (iRng1 (tCons (tCB (uMaxU K) (tCons (tC (.int 8)) (tCons (tCB uMin (tCons (tCB (uLen K) (tCons (tVar 0) tNil)) (tCons (tC (.int 28)) tNil))) tNil))) tNil)) (gName 7) tYes (tCall sp__law_piece [] E0 (tCons (tCall sp__law_cell [] E0 (tCons (tVar 0) (tCons (tOp (uAdd K) (tC (.int 1)) (tVar 7)) tNil))) (tCons (tVar 1) tNil))) [7]) (gName 3))
  (tSeq (tAsg (tM1 (uJoin K) (tC (.str (Str.ofString ""))) (tVar 3)) (gName 4))
  (tSeq (tAsg (tCall sp__law_cut [] E0 (tCons (tVar 4) (tCons (tVar 1) tNil))) (gName 5))
  (tSeq (tAsg (tCall sp__law_told [] E0 (tCons (tVar 4) (tCons (tVar 2) tNil))) (gName 6))
  (tSeq (tIfS (tOr (tNot (tTru K (tCall sp__law_alike [] E0 (tCons (tVar 6) (tCons (tVar 5) tNil))))) (tTest (tOp (uNe K) (tVar 2) (tVar 1)))) (tRet (tC (.bl false))) tNext)
  (tSeq (tIfS (tTru K (tCB (uIsi K) (tCons (tVar 6) (tCons (tC (.ty "list")) tNil)))) (tDrop (tBM K "list" rAppend (tVar 6) (tCons (tC .non) tNil))) tNext)
  (tSeq (tFor (iRng1 (tCons (tCB (uLen K) (tCons (tVar 3) tNil)) tNil)) (gName 7) (tSeq (tAsg (tM1 (uJoin K) (tC (.str (Str.ofString ""))) (tSl (uSl K) (tSl (uSl K) (tVar 3) tNoPart (tPart (tVar 7))) (tPart (tUn uNeg (tC (.int 6)))) tNoPart)) (gName 8))
  (tIfS (tNot (tTru K (tCall sp__law_alike [] E0 (tCons (tCall sp__law_told [] E0 (tCons (tVar 8) (tCons (tOp (rIx K) (tLst (tCons (tVar 1) (tCons (tCB (uTuple K) (tCons (tVar 1) tNil)) tNil))) (tOp uMod (tVar 7) (tC (.int 2)))) tNil))) (tCons (tCall sp__law_cut [] E0 (tCons (tVar 8) (tCons (tVar 1) tNil))) tNil))))) (tRet (tC (.bl false))) tNext)))
  (tRet (tCall sp__law_alike [] E0 (tCons (tCall sp__law_told [] E0 (tCons (tVar 4) (tCons (tVar 1) tNil))) (tCons (tVar 5) tNil)))))))))))))
theorem p_law {P : Program} {w : World} {K : PySem.W.Frag} {mg : Str → Option Value} {base : Heap} {f : Addr} {k : Nat} {sp__law_cell : Sp} (gd__law_cell : GD P w K mg base k "_law_cell" ["_law_script", "_law_k"] sp__law_cell) {sp__law_fixed_by : Sp} (gd__law_fixed_by : GD P w K mg base k "_law_fixed_by" ["_law_cell_here"] sp__law_fixed_by) {sp__law_piece : Sp} (gd__law_piece : GD P w K mg base k "_law_piece" ["_law_cell_here", "_law_fixed"] sp__law_piece) {sp__law_cut : Sp} (gd__law_cut : GD P w K mg base k "_law_cut" ["_law_text", "_law_fixed"] sp__law_cut) {sp__law_told : Sp} (gd__law_told : GX P w K mg base k "_law_told" ["_law_text", "_law_fixed"] sp__law_told) {sp__law_alike : Sp} (gd__law_alike : GD P w K mg base k "_law_alike" ["_law_found", "_law_due"] sp__law_alike) (mz_range : mg "range" = none) (mz_list : mg "list" = none) (mz_max : mg "max" = none) (mz_min : mg "min" = none) (mz_len : mg "len" = none) (mz_isinstance : mg "isinstance" = none) (mz_tuple : mg "tuple" = none) (cdv : Value) (A : Around) (outer : List Env) (s : Shared) (H : Hp) (E : XK)
    (hr : Room k (A.deeper (envOfC "law" (defScope s_law) s.heap.objs.size f cdv))) :
    PSs (cxOf CX0 P w K mg base ["_law_script", "_law_fixed", "_law_handed", "_law_pieces", "_law_text", "_law_due", "_law_found", "_law_k", "_law_part"] "law" (defScope s_law) f cdv A outer s H E).nox (defBody s_law) (T_law K sp__law_cell sp__law_fixed_by sp__law_piece sp__law_cut sp__law_told sp__law_alike) :=
  (pss_cons (ps_set (i := 1) sc_law.nd rfl (Or.inr rfl) (pe_lc (own := [("_law_k", 7)]) (g := (gName 7)) (tt := tYes) (te := (tCall sp__law_fixed_by [] E0 (tCons (tCall sp__law_cell [] E0 (tCons (tVar 0) (tCons (tOp (uAdd K) (tC (.int 700)) (tVar 7)) tNil))) tNil))) rfl sc_law.nd (pi_range1 (by rfl) mz_range (pa_cons (pe_op ou_mod (pe_gd gd__law_cell hr (by rfl) (pa_cons (pv 0) (pa_cons pe_int pa_nil))) pe_int) pa_nil)) (blkOk_by (own := [("_law_k", 7)]) (N := ["_law_script", "_law_fixed", "_law_handed", "_law_pieces", "_law_text", "_law_due", "_law_found", "_law_k", "_law_part"]) (sc := defScope s_law) (by decide +kernel)) (fun _ _ _ _ _ => (pg_name (i := 7) sc_law.nd rfl (by first | exact Or.inl rfl | exact Or.inr rfl))) (fun _ _ _ _ _ => pts_nil) (fun _ _ _ _ _ => (pe_gd gd__law_fixed_by hr (by rfl) (pa_cons (pe_gd gd__law_cell hr (by rfl) (pa_cons (pv 0) (pa_cons (pe_op (ou_add rfl) pe_int (pv 7)) pa_nil))) pa_nil)))))
  (pss_cons (ps_set (i := 2) sc_law.nd rfl (Or.inl rfl) (pe_callTy (cu_list rfl) (by rfl) mz_list (by decide +kernel) (pa_cons (pv 1) pa_nil)))
  (pss_cons (ps_setLc (i := 3) (own := [("_law_k", 7)]) (g := (gName 7)) (tt := tYes) (te := (tCall sp__law_piece [] E0 (tCons (tCall sp__law_cell [] E0 (tCons (tVar 0) (tCons (tOp (uAdd K) (tC (.int 1)) (tVar 7)) tNil))) (tCons (tVar 1) tNil)))) rfl sc_law.nd rfl rfl (sw_true rfl rfl rfl (by decide +kernel)) (pi_range1 (by rfl) mz_range (pa_cons (pe_callB (cu_maxU rfl rfl (room64 hr)) (by rfl) mz_max (by decide +kernel) (pa_cons pe_int (pa_cons (pe_callB (cu_min rfl) (by rfl) mz_min (by decide +kernel) (pa_cons (pe_callB (cu_len rfl) (by rfl) mz_len (by decide +kernel) (pa_cons (pv 0) pa_nil)) (pa_cons pe_int pa_nil))) pa_nil))) pa_nil)) (blkOk_by (own := [("_law_k", 7)]) (N := ["_law_script", "_law_fixed", "_law_handed", "_law_pieces", "_law_text", "_law_due", "_law_found", "_law_k", "_law_part"]) (sc := defScope s_law) (by decide +kernel)) (fun _ _ _ _ _ => (pg_name (i := 7) sc_law.nd rfl (by first | exact Or.inl rfl | exact Or.inr rfl))) (fun _ _ _ _ _ => pts_nil) (fun _ _ _ _ _ => (pe_gd gd__law_piece hr (by rfl) (pa_cons (pe_gd gd__law_cell hr (by rfl) (pa_cons (pv 0) (pa_cons (pe_op (ou_add rfl) pe_int (pv 7)) pa_nil))) (pa_cons (pv 1) pa_nil)))))
  (pss_cons (ps_set (i := 4) sc_law.nd rfl (Or.inl rfl) (pe_ujoin rfl pe_str (pv 3)))
  (pss_cons (ps_set (i := 5) sc_law.nd rfl (Or.inl rfl) (pe_gd gd__law_cut hr (by rfl) (pa_cons (pv 4) (pa_cons (pv 1) pa_nil))))
  (pss_cons (ps_set (i := 6) sc_law.nd rfl (Or.inl rfl) (pe_gx0 gd__law_told hr (by rfl) (pa_cons (pv 4) (pa_cons (pv 2) pa_nil))))
  (pss_cons (ps_if (PW.pt (pw_or (pt_not (pt_any rfl (pe_gd gd__law_alike hr (by rfl) (pa_cons (pv 6) (pa_cons (pv 5) pa_nil))))) (pw_or1 (pt_cmpR (ou_ne rfl (room64 hr)) (pv 2) (pv 1) (nomark _))))) (pss_one (ps_ret pe_bl)) pss_nil)
  (pss_cons (ps_if (pt_any rfl (pe_callB (cu_isiU rfl) (by rfl) mz_isinstance (by decide +kernel) (pa_cons (pv 6) (pa_cons (pe_bltn (v := .ty "list") (by rfl) mz_list (by decide +kernel) rfl) pa_nil)))) (pss_one (ps_expr (pe_bm PySem.F.plainAttrs_list PySem.F.slot_list_append PySem.F.type_list_append mt_append (pv 6) (pa_cons pe_non pa_nil)))) pss_nil)
  (pss_cons (ps_for PassesOwn.never rfl (pi_range1 (by rfl) mz_range (pa_cons (pe_callB (cu_len rfl) (by rfl) mz_len (by decide +kernel) (pa_cons (pv 3) pa_nil)) pa_nil)) (pg_name (i := 7) sc_law.nd rfl (by first | exact Or.inl rfl | exact Or.inr rfl)) (pss_cons (ps_set (i := 8) sc_law.nd rfl (Or.inl rfl) (pe_ujoin rfl pe_str (pe_slice (ou_sl rfl) (pe_slice (ou_sl rfl) (pv 3) po_none (po_some (pv 7))) (po_some (pe_un ou_neg pe_int)) po_none)))
  (pss_one (ps_if (pt_not (pt_any rfl (pe_gd gd__law_alike hr (by rfl) (pa_cons (pe_gx0 gd__law_told hr (by rfl) (pa_cons (pv 8) (pa_cons (pe_ix (ou_ix rfl) (pe_lst (pa_cons (pv 1) (pa_cons (pe_callTy (cu_tuple rfl) (by rfl) mz_tuple (by decide +kernel) (pa_cons (pv 1) pa_nil)) pa_nil))) (pe_op ou_mod (pv 7) pe_int) (fun _ _ => rfl)) pa_nil))) (pa_cons (pe_gd gd__law_cut hr (by rfl) (pa_cons (pv 8) (pa_cons (pv 1) pa_nil))) pa_nil))))) (pss_one (ps_ret pe_bl)) pss_nil))))
  (pss_one (ps_ret (pe_gd gd__law_alike hr (by rfl) (pa_cons (pe_gx0 gd__law_told hr (by rfl) (pa_cons (pv 4) (pa_cons (pv 1) pa_nil))) (pa_cons (pv 5) pa_nil))))))))))))))
/-! ### the mathematics of cutting -/
def blanks : List Nat := [32, 9, 10]
def figs : List Nat := (Str.ofString "0123456789").cps.toList
def letters : List Nat := (Str.ofString "abcdefghijklmnopqrstuvwxyz").cps.toList
def kNAME : List Nat := (Str.ofString "NAME").cps.toList
def kNUMBER : List Nat := (Str.ofString "NUMBER").cps.toList
def kQUOTE : List Nat := (Str.ofString "QUOTE").cps.toList
def runS (r s : List Nat) : Nat := (r.takeWhile fun c => decide (c ∈ s)).length
def untilQ (x : List Nat) : List Nat := x.takeWhile fun c => decide (c ≠ 34)
def quoteS : List Nat → Nat
  | [] => 0
  | c :: x => if c = 34 then (if (untilQ x).length = x.length then 0 else if 10 ∈ untilQ x then 0 else (untilQ x).length + 2) else 0
theorem quoteS_cons (c : Nat) (x : List Nat) : quoteS (c :: x) = if c = 34 then (if (untilQ x).length = x.length then 0 else if 10 ∈ untilQ x then 0 else (untilQ x).length + 2) else 0 := rfl
def stepO (f k : List Nat × Nat) : List Nat × Nat := if decide (f.2 < k.2) then k else f
def stepF (r : List Nat) (f : List Nat × Nat) (w : List Nat) : List Nat × Nat :=
  if w.isPrefixOf r && (decide (f.2 < w.length) || (decide (w.length = f.2) && !decide (f.1.getD 0 0 = 39))) then (39 :: w, w.length) else f
def open0 (r : List Nat) : List Nat × Nat := stepO (stepO (kNAME, runS r letters) (kNUMBER, runS r figs)) (kQUOTE, quoteS r)
def wordS (r : List Nat) (fixed : List (List Nat)) : List Nat × Nat := fixed.foldl (stepF r) (open0 r)
abbrev Wd := List Nat × List Nat × Nat
theorem stepF_le (r : List Nat) (f : List Nat × Nat) (w : List Nat) : f.2 ≤ (stepF r f w).2 := by
  unfold stepF
  split
  · rename_i h
    simp only [Bool.and_eq_true, Bool.or_eq_true, decide_eq_true_eq] at h
    show f.2 ≤ w.length
    rcases h.2 with h | h
    · omega
    · omega
  · exact Nat.le_refl _
theorem fold_le (r : List Nat) : ∀ (fixed : List (List Nat)) (f : List Nat × Nat), f.2 ≤ (fixed.foldl (stepF r) f).2
  | [], f => Nat.le_refl _
  | w :: ws, f => Nat.le_trans (stepF_le r f w) (fold_le r ws (stepF r f w))
theorem stepF_hit (r : List Nat) (f : List Nat × Nat) (w : List Nat) (h : w.isPrefixOf r = true) : w.length ≤ (stepF r f w).2 := by
  unfold stepF
  rw [h, Bool.true_and]
  split
  · exact Nat.le_refl _
  · rename_i h2
    simp only [Bool.or_eq_true, Bool.and_eq_true, decide_eq_true_eq, not_or] at h2
    omega
theorem fold_hit (r : List Nat) : ∀ (fixed : List (List Nat)) (f : List Nat × Nat) (w : List Nat), w ∈ fixed → w.isPrefixOf r = true → w.length ≤ (fixed.foldl (stepF r) f).2
  | [], f, w, hw, _ => by cases hw
  | v :: ws, f, w, hw, h => by
    rcases List.mem_cons.mp hw with rfl | hw
    · exact Nat.le_trans (stepF_hit r f w h) (fold_le r ws _)
    · exact fold_hit r ws _ w hw h
theorem stepO_l (f k : List Nat × Nat) : f.2 ≤ (stepO f k).2 := by
  unfold stepO
  split
  · rename_i h; have := of_decide_eq_true h; omega
  · exact Nat.le_refl _
theorem stepO_r (f k : List Nat × Nat) : k.2 ≤ (stepO f k).2 := by
  unfold stepO
  split
  · exact Nat.le_refl _
  · rename_i h; have h' : ¬ f.2 < k.2 := fun z => h (decide_eq_true z); omega
theorem max_letters (r : List Nat) (fixed : List (List Nat)) : runS r letters ≤ (wordS r fixed).2 :=
  Nat.le_trans (Nat.le_trans (stepO_l (kNAME, runS r letters) (kNUMBER, runS r figs)) (stepO_l _ (kQUOTE, quoteS r))) (fold_le r fixed _)
theorem max_figs (r : List Nat) (fixed : List (List Nat)) : runS r figs ≤ (wordS r fixed).2 :=
  Nat.le_trans (Nat.le_trans (stepO_r (kNAME, runS r letters) (kNUMBER, runS r figs)) (stepO_l _ (kQUOTE, quoteS r))) (fold_le r fixed _)
theorem max_quote (r : List Nat) (fixed : List (List Nat)) : quoteS r ≤ (wordS r fixed).2 :=
  Nat.le_trans (stepO_r _ (kQUOTE, quoteS r)) (fold_le r fixed _)
theorem max_fixed (r : List Nat) (fixed : List (List Nat)) (w : List Nat) (hw : w ∈ fixed) (h : w.isPrefixOf r = true) : w.length ≤ (wordS r fixed).2 := fold_hit r fixed _ w hw h
/-- the word that is found is one of those that stand there -/
theorem fold_one (r : List Nat) (Pr : Nat → Prop) : ∀ (fixed : List (List Nat)) (f : List Nat × Nat), Pr f.2 → (∀ w ∈ fixed, w.isPrefixOf r = true → Pr w.length) → Pr (fixed.foldl (stepF r) f).2
  | [], f, h, _ => h
  | w :: ws, f, h, hw => by
    refine fold_one r Pr ws (stepF r f w) ?_ fun v hv => hw v (List.mem_cons_of_mem _ hv)
    unfold stepF
    split
    · rename_i h2
      rw [Bool.and_eq_true] at h2
      exact hw w List.mem_cons_self h2.1
    · exact h
theorem stepO_one (Pr : Nat → Prop) (f k : List Nat × Nat) (h1 : Pr f.2) (h2 : Pr k.2) : Pr (stepO f k).2 := by
  unfold stepO
  split
  · exact h2
  · exact h1
theorem word_one (r : List Nat) (fixed : List (List Nat)) (Pr : Nat → Prop) (h1 : Pr (runS r letters)) (h2 : Pr (runS r figs)) (h3 : Pr (quoteS r)) (h4 : ∀ w ∈ fixed, w.isPrefixOf r = true → Pr w.length) : Pr (wordS r fixed).2 :=
  fold_one r Pr fixed _ (stepO_one Pr _ _ (stepO_one Pr _ _ h1 h2) h3) h4
theorem takeWhile_len {α : Type} (p : α → Bool) : ∀ l : List α, (l.takeWhile p).length ≤ l.length
  | [] => Nat.le_refl _
  | c :: r => by
    rw [List.takeWhile_cons]
    split
    · rw [List.length_cons, List.length_cons]; have := takeWhile_len p r; omega
    · exact Nat.zero_le _
theorem runS_len (r s : List Nat) : runS r s ≤ r.length := takeWhile_len _ r
theorem quoteS_len (r : List Nat) : quoteS r ≤ r.length := by
  cases r with
  | nil => exact Nat.le_refl _
  | cons c x =>
    have h : (untilQ x).length ≤ x.length := takeWhile_len _ x
    rw [quoteS_cons, List.length_cons]
    split
    · split
      · omega
      · split
        · omega
        · omega
    · omega
theorem prefix_len : ∀ (w r : List Nat), w.isPrefixOf r = true → w.length ≤ r.length
  | [], r, _ => Nat.zero_le _
  | a :: w, [], h => by cases h
  | a :: w, b :: r, h => by
    rw [List.isPrefixOf, Bool.and_eq_true] at h
    rw [List.length_cons, List.length_cons]
    have := prefix_len w r h.2
    omega
theorem wordS_len (r : List Nat) (fixed : List (List Nat)) : (wordS r fixed).2 ≤ r.length :=
  word_one r fixed (fun n => n ≤ r.length) (runS_len _ _) (runS_len _ _) (quoteS_len r) fun w _ h => prefix_len w r h
/-! cutting: the words, or the place at which none stands -/
def cutR (fixed : List (List Nat)) (at' : Nat) (r : List Nat) : Except Nat (List Wd) :=
  match r with
  | [] => .ok []
  | c :: x =>
    if c ∈ blanks then cutR fixed (at' + 1) x
    else if h : (wordS (c :: x) fixed).2 = 0 then .error at'
    else (cutR fixed (at' + (wordS (c :: x) fixed).2) ((c :: x).drop (wordS (c :: x) fixed).2)).map fun l => ((wordS (c :: x) fixed).1, (c :: x).take (wordS (c :: x) fixed).2, at') :: l
termination_by r.length
decreasing_by
  · simp
  · rw [List.length_drop, List.length_cons]; omega
theorem cutR_nil (fixed : List (List Nat)) (a : Nat) : cutR fixed a [] = .ok [] := by rw [cutR]
theorem cutR_blank {fixed : List (List Nat)} {a c : Nat} {x : List Nat} (h : c ∈ blanks) : cutR fixed a (c :: x) = cutR fixed (a + 1) x := by rw [cutR, if_pos h]
theorem cutR_none {fixed : List (List Nat)} {a c : Nat} {x : List Nat} (h : c ∉ blanks) (hw : (wordS (c :: x) fixed).2 = 0) : cutR fixed a (c :: x) = .error a := by rw [cutR, if_neg h, dif_pos hw]
theorem cutR_word {fixed : List (List Nat)} {a c : Nat} {x : List Nat} (h : c ∉ blanks) (hw : (wordS (c :: x) fixed).2 ≠ 0) :
    cutR fixed a (c :: x) = (cutR fixed (a + (wordS (c :: x) fixed).2) ((c :: x).drop (wordS (c :: x) fixed).2)).map fun l => ((wordS (c :: x) fixed).1, (c :: x).take (wordS (c :: x) fixed).2, a) :: l := by
  rw [cutR, if_neg h, dif_neg hw]
/-! fixed words as they are handed in -/
structure Fx (fixed : List (List Nat)) : Prop where
  ne : ∀ w ∈ fixed, w ≠ []
  good : ∀ w ∈ fixed, ∀ c ∈ w, c ≠ 34 ∧ c ∉ blanks
/-! what stands ahead of a bound does not hang on what is behind it -/
theorem take_takeWhile (p : Nat → Bool) : ∀ (r b : List Nat) (n : Nat), (r.takeWhile p).length ≤ n → (b = [] ∨ ∃ c y, b = c :: y ∧ p c = false) → n ≤ r.length → ((r.take n ++ b).takeWhile p).length = (r.takeWhile p).length
  | [], b, n, _, hb, hn => by
    have : n = 0 := by simpa using hn
    subst this
    rcases hb with rfl | ⟨c, y, rfl, hc⟩
    · rfl
    · simp [List.takeWhile_cons, hc]
  | c :: r, b, 0, h, hb, _ => by
    rw [List.takeWhile_cons] at h ⊢
    cases hp : p c with
    | true => rw [hp] at h; simp at h
    | false =>
      rw [List.take_zero, List.nil_append]
      rcases hb with rfl | ⟨c', y, rfl, hc⟩
      · simp
      · simp [List.takeWhile_cons, hc]
  | c :: r, b, n + 1, h, hb, hn => by
    rw [List.takeWhile_cons] at h ⊢
    rw [List.take_succ_cons, List.cons_append, List.takeWhile_cons]
    cases hp : p c with
    | true =>
      rw [hp] at h
      simp only [if_true, List.length_cons] at h ⊢
      have ih := take_takeWhile p r b n (by omega) hb (by simpa using hn)
      omega
    | false => rfl
theorem prefix_take : ∀ (w r b : List Nat) (n : Nat), n ≤ r.length → (w.isPrefixOf r = true → w.length ≤ n) → (∀ c ∈ w, c ≠ 32) → (b = [] ∨ ∃ y, b = 32 :: y) → w.isPrefixOf (r.take n ++ b) = w.isPrefixOf r
  | [], r, b, n, _, _, _, _ => by simp [List.isPrefixOf]
  | a :: w, r, b, 0, hn, h, hc, hb => by
    have h0 : (a :: w).isPrefixOf r = false := by
      cases z : (a :: w).isPrefixOf r with
      | false => rfl
      | true => have := h z; simp at this
    rw [h0, List.take_zero, List.nil_append]
    rcases hb with rfl | ⟨y, rfl⟩
    · rfl
    · rw [List.isPrefixOf]
      have : (a == 32) = false := beq_eq_false_iff_ne.mpr (hc a List.mem_cons_self)
      rw [this]; rfl
  | a :: w, [], b, n + 1, hn, _, _, _ => by simp at hn
  | a :: w, c :: r, b, n + 1, hn, h, hc, hb => by
    rw [List.take_succ_cons, List.cons_append, List.isPrefixOf, List.isPrefixOf]
    cases e : (a == c) with
    | false => rfl
    | true =>
      rw [Bool.true_and, Bool.true_and]
      refine prefix_take w r b n (by simpa using hn) (fun z => ?_) (fun x hx => hc x (List.mem_cons_of_mem _ hx)) hb
      have := h (by rw [List.isPrefixOf, e, z]; rfl)
      rw [List.length_cons] at this; omega
theorem takeWhile_take (p : Nat → Bool) : ∀ (x b : List Nat) (m : Nat), (x.takeWhile p).length < m → m ≤ x.length → (x.take m ++ b).takeWhile p = x.takeWhile p
  | [], b, m, h, hm => by simp at hm; omega
  | c :: x, b, 0, h, _ => by omega
  | c :: x, b, m + 1, h, hm => by
    rw [List.take_succ_cons, List.cons_append, List.takeWhile_cons, List.takeWhile_cons]
    rw [List.takeWhile_cons] at h
    cases hp : p c with
    | false => rfl
    | true =>
      rw [hp] at h
      simp only [if_true, List.length_cons] at h ⊢
      rw [takeWhile_take p x b m (by omega) (by simpa using hm)]
theorem quote_take {r b : List Nat} {n : Nat} (h : quoteS r ≤ n) (hn : n ≤ r.length) (h0 : 0 < n) (hq : quoteS r = 0 → r.head? ≠ some 34) : quoteS (r.take n ++ b) = quoteS r := by
  cases r with
  | nil => simp at hn; omega
  | cons c x =>
    obtain ⟨m, rfl⟩ : ∃ m, n = m + 1 := ⟨n - 1, by omega⟩
    rw [List.take_succ_cons, List.cons_append]
    by_cases hc : c = 34
    · subst hc
      have hpos : quoteS (34 :: x) ≠ 0 := fun z => hq z rfl
      rw [quoteS_cons, if_pos rfl] at h hpos
      rw [quoteS_cons, quoteS_cons, if_pos rfl, if_pos rfl]
      by_cases h1 : (untilQ x).length = x.length
      · rw [if_pos h1] at hpos; exact absurd rfl hpos
      · rw [if_neg h1] at h hpos
        by_cases h2 : 10 ∈ untilQ x
        · rw [if_pos h2] at hpos; exact absurd rfl hpos
        · rw [if_neg h2] at h
          have hm : m ≤ x.length := by simpa using hn
          have e : untilQ (x.take m ++ b) = untilQ x := takeWhile_take _ x b m (by show (untilQ x).length < m; omega) hm
          have hl : (x.take m ++ b).length = m + b.length := by rw [List.length_append, List.length_take]; omega
          rw [e, if_neg h1, if_neg h2, if_neg (by rw [hl]; omega)]
    · rw [quoteS_cons, quoteS_cons, if_neg hc, if_neg hc]
theorem fold_congr {r r' : List Nat} : ∀ (fixed : List (List Nat)) (f : List Nat × Nat), (∀ w ∈ fixed, w.isPrefixOf r = w.isPrefixOf r') → fixed.foldl (stepF r) f = fixed.foldl (stepF r') f
  | [], _, _ => rfl
  | w :: ws, f, h => by
    rw [List.foldl_cons, List.foldl_cons]
    have e : stepF r f w = stepF r' f w := by unfold stepF; rw [h w List.mem_cons_self]
    rw [e]
    exact fold_congr ws _ fun v hv => h v (List.mem_cons_of_mem _ hv)
theorem blank_not_letter : ¬ (32 ∈ letters) := by decide +kernel
theorem blank_not_fig : ¬ (32 ∈ figs) := by decide +kernel
theorem mark_not_letter : ¬ (34 ∈ letters) := by decide +kernel
theorem mark_not_fig : ¬ (34 ∈ figs) := by decide +kernel
theorem same_word {r b : List Nat} {fixed : List (List Nat)} (F : Fx fixed) {k : Nat} (hp : 0 < (wordS r fixed).2) (hk : (wordS r fixed).2 ≤ k) (hr : k ≤ r.length) (hb : b = [] ∨ ∃ y, b = 32 :: y) :
    wordS (r.take k ++ b) fixed = wordS r fixed := by
  have hb2 : ∀ s : List Nat, ¬ (32 ∈ s) → (b = [] ∨ ∃ c y, b = c :: y ∧ (fun c => decide (c ∈ s)) c = false) := fun s hs => by
    rcases hb with h | ⟨y, h⟩
    · exact .inl h
    · exact .inr ⟨32, y, h, decide_eq_false hs⟩
  have hq : quoteS r = 0 → r.head? ≠ some 34 := fun h0 hh => by
    cases r with
    | nil => cases hh
    | cons c x =>
      have hc : c = 34 := Option.some.inj hh
      subst hc
      have z : (wordS (34 :: x) fixed).2 = 0 := word_one (34 :: x) fixed (fun n => n = 0) (by unfold runS; rw [List.takeWhile_cons, decide_eq_false mark_not_letter]; rfl)
        (by unfold runS; rw [List.takeWhile_cons, decide_eq_false mark_not_fig]; rfl) h0 (fun w hw hpre => by
          cases w with
          | nil => rfl
          | cons a w =>
            rw [List.isPrefixOf, Bool.and_eq_true] at hpre
            have e : a = 34 := eq_of_beq hpre.1
            exact absurd e (F.good _ hw a List.mem_cons_self).1)
      omega
  have e1 : runS (r.take k ++ b) letters = runS r letters := take_takeWhile _ r b k (Nat.le_trans (max_letters r fixed) hk) (hb2 _ blank_not_letter) hr
  have e2 : runS (r.take k ++ b) figs = runS r figs := take_takeWhile _ r b k (Nat.le_trans (max_figs r fixed) hk) (hb2 _ blank_not_fig) hr
  have e3 : quoteS (r.take k ++ b) = quoteS r := quote_take (Nat.le_trans (max_quote r fixed) hk) hr (by omega) hq
  unfold wordS
  have e0 : open0 (r.take k ++ b) = open0 r := by unfold open0; rw [e1, e2, e3]
  rw [e0]
  refine fold_congr fixed _ fun w hw => prefix_take w r b k hr (fun h => Nat.le_trans (max_fixed r fixed w hw h) hk) (fun c hc z => ?_) hb
  exact (F.good w hw c hc).2 (by rw [z]; decide)
/-- what is ahead of the place at which no word stands can be cut -/
theorem cut_ahead {fixed : List (List Nat)} (F : Fx fixed) : ∀ (n : Nat) (r : List Nat) (a p : Nat), r.length ≤ n → cutR fixed a r = .error p → a ≤ p ∧ p - a ≤ r.length ∧ ∃ ws, cutR fixed a (r.take (p - a)) = .ok ws
  | _, [], a, p, _, h => by rw [cutR_nil] at h; cases h
  | 0, c :: x, a, p, hn, _ => by simp at hn
  | n + 1, c :: x, a, p, hn, h => by
    rw [List.length_cons] at hn
    by_cases hc : c ∈ blanks
    · rw [cutR_blank hc] at h
      obtain ⟨h1, h2, ws, h3⟩ := cut_ahead F n x (a + 1) p (by omega) h
      refine ⟨by omega, by rw [List.length_cons]; omega, ws, ?_⟩
      rw [show p - a = (p - (a + 1)) + 1 by omega, List.take_succ_cons, cutR_blank hc]
      exact h3
    · by_cases hw : (wordS (c :: x) fixed).2 = 0
      · rw [cutR_none hc hw] at h
        cases h
        exact ⟨Nat.le_refl _, by omega, [], by rw [Nat.sub_self, List.take_zero, cutR_nil]⟩
      · rw [cutR_word hc hw] at h
        have hl := wordS_len (c :: x) fixed
        cases hz : cutR fixed (a + (wordS (c :: x) fixed).2) ((c :: x).drop (wordS (c :: x) fixed).2) with
        | ok l => rw [hz] at h; cases h
        | error e =>
          rw [hz] at h
          have ep : e = p := by cases h; rfl
          subst ep
          obtain ⟨h1, h2, ws, h3⟩ := cut_ahead F n _ _ e (by rw [List.length_drop, List.length_cons]; omega) hz
          rw [List.length_drop] at h2
          refine ⟨by omega, by omega, ((wordS (c :: x) fixed).1, (c :: x).take (wordS (c :: x) fixed).2, a) :: ws, ?_⟩
          have hs := same_word (b := []) F (r := c :: x) (k := e - a) (by omega) (by omega) (by omega) (.inl rfl)
          rw [List.append_nil] at hs
          have ek : (c :: x).take (e - a) = c :: x.take (e - a - 1) := by
            rw [show e - a = (e - a - 1) + 1 by omega, List.take_succ_cons, Nat.add_sub_cancel]
          have hw' : (wordS (c :: x.take (e - a - 1)) fixed).2 ≠ 0 := by rw [← ek, hs]; exact hw
          rw [ek, cutR_word hc hw', ← ek, hs]
          have ed : ((c :: x).take (e - a)).drop (wordS (c :: x) fixed).2 = ((c :: x).drop (wordS (c :: x) fixed).2).take (e - (a + (wordS (c :: x) fixed).2)) := by
            rw [List.drop_take]
            congr 1
            omega
          have et : ((c :: x).take (e - a)).take (wordS (c :: x) fixed).2 = (c :: x).take (wordS (c :: x) fixed).2 := by
            rw [List.take_take]
            congr 1
            omega
          rw [ed, h3, et]
          rfl
/-! the words cover the text -/
def Cov : Nat → List Nat → List Wd → Prop
  | _, _, [] => True
  | a, r, (_, t, p) :: ws => a ≤ p ∧ (∀ c ∈ r.take (p - a), c ∈ blanks) ∧ t ≠ [] ∧ (r.drop (p - a)).take t.length = t ∧ (p - a) + t.length ≤ r.length ∧ Cov (p + t.length) (r.drop (p - a + t.length)) ws
structure Good (fixed : List (List Nat)) (k t : List Nat) : Prop where
  ne : ∃ c x, t = c :: x ∧ c ∉ blanks
  wd : ∀ b, (b = [] ∨ ∃ y, b = 32 :: y) → wordS (t ++ b) fixed = (k, t.length)
theorem cov_blank {a c : Nat} {x : List Nat} (hc : c ∈ blanks) : ∀ {ws : List Wd}, Cov (a + 1) x ws → Cov a (c :: x) ws
  | [], _ => trivial
  | (k, t, p) :: ws, ⟨h1, h2, h3, h4, h5, h6⟩ => by
    have e : p - a = (p - (a + 1)) + 1 := by omega
    refine ⟨by omega, fun d hd => ?_, h3, ?_, ?_, ?_⟩
    · rw [e, List.take_succ_cons] at hd
      rcases List.mem_cons.mp hd with rfl | hd
      · exact hc
      · exact h2 d hd
    · rw [e, List.drop_succ_cons]; exact h4
    · rw [e, List.length_cons]; omega
    · rw [e, show p - (a + 1) + 1 + t.length = (p - (a + 1) + t.length) + 1 by omega, List.drop_succ_cons]; exact h6
theorem cut_ok {fixed : List (List Nat)} (F : Fx fixed) : ∀ (n : Nat) (r : List Nat) (a : Nat) (ws : List Wd), r.length ≤ n → cutR fixed a r = .ok ws → Cov a r ws ∧ ∀ w ∈ ws, Good fixed w.1 w.2.1
  | _, [], a, ws, _, h => by
    rw [cutR_nil] at h
    cases h
    exact ⟨trivial, fun w hw => by cases hw⟩
  | 0, c :: x, a, ws, hn, _ => by simp at hn
  | n + 1, c :: x, a, ws, hn, h => by
    rw [List.length_cons] at hn
    by_cases hc : c ∈ blanks
    · rw [cutR_blank hc] at h
      obtain ⟨h1, h2⟩ := cut_ok F n x (a + 1) ws (by omega) h
      exact ⟨cov_blank hc h1, h2⟩
    · by_cases hw : (wordS (c :: x) fixed).2 = 0
      · rw [cutR_none hc hw] at h
        cases h
      · rw [cutR_word hc hw] at h
        have hl := wordS_len (c :: x) fixed
        cases hz : cutR fixed (a + (wordS (c :: x) fixed).2) ((c :: x).drop (wordS (c :: x) fixed).2) with
        | error e => rw [hz] at h; cases h
        | ok l =>
          rw [hz] at h
          have el : ((wordS (c :: x) fixed).1, (c :: x).take (wordS (c :: x) fixed).2, a) :: l = ws := by cases h; rfl
          subst el
          obtain ⟨h1, h2⟩ := cut_ok F n _ _ l (by rw [List.length_drop, List.length_cons]; omega) hz
          have elen : ((c :: x).take (wordS (c :: x) fixed).2).length = (wordS (c :: x) fixed).2 := by rw [List.length_take]; omega
          refine ⟨⟨Nat.le_refl _, ?_, ?_, ?_, ?_, ?_⟩, fun w hm => ?_⟩
          · rw [Nat.sub_self, List.take_zero]; intro d hd; cases hd
          · intro z
            have := congrArg List.length z
            rw [elen] at this
            exact hw this
          · rw [Nat.sub_self, List.drop_zero, elen]
          · rw [Nat.sub_self, elen]; omega
          · rw [Nat.sub_self, elen, Nat.zero_add]; exact h1
          · rcases List.mem_cons.mp hm with rfl | hm
            · refine ⟨⟨c, x.take ((wordS (c :: x) fixed).2 - 1), ?_, hc⟩, fun b hb => ?_⟩
              · show (c :: x).take (wordS (c :: x) fixed).2 = _
                have : (wordS (c :: x) fixed).2 = ((wordS (c :: x) fixed).2 - 1) + 1 := by omega
                rw [this, List.take_succ_cons, Nat.add_sub_cancel]
              · show wordS ((c :: x).take (wordS (c :: x) fixed).2 ++ b) fixed = ((wordS (c :: x) fixed).1, ((c :: x).take (wordS (c :: x) fixed).2).length)
                rw [elen]
                exact same_word F (by omega) (Nat.le_refl _) hl hb
            · exact h2 w hm
/-- the words laid with blanks between are cut into the same -/
theorem cut_again {fixed : List (List Nat)} : ∀ (ps : List (List Nat × List Nat)) (a : Nat), (∀ p ∈ ps, Good fixed p.1 p.2) → ∃ ws, cutR fixed a (joinL [32] (ps.map (·.2))) = .ok ws ∧ ws.map (fun w => (w.1, w.2.1)) = ps
  | [], a, _ => ⟨[], cutR_nil _ _, rfl⟩
  | [(k, t)], a, h => by
    obtain ⟨⟨c, x, et, hc⟩, hw⟩ := h (k, t) List.mem_cons_self
    have et : t = c :: x := et
    have w0 := hw [] (.inl rfl)
    rw [List.append_nil] at w0
    have w0 : wordS t fixed = (k, t.length) := w0
    show ∃ ws, cutR fixed a t = .ok ws ∧ _
    rw [et] at w0 ⊢
    have hn : (wordS (c :: x) fixed).2 ≠ 0 := by rw [w0]; simp
    rw [cutR_word hc hn, w0]
    show ∃ ws, (cutR fixed (a + (c :: x).length) ((c :: x).drop (c :: x).length)).map _ = .ok ws ∧ _
    rw [List.drop_length, cutR_nil]
    exact ⟨_, rfl, by rw [List.map_cons, List.map_nil]; show [(k, (c :: x).take (c :: x).length)] = _; rw [List.take_length]⟩
  | (k, t) :: q :: ps, a, h => by
    obtain ⟨⟨c, x, et, hc⟩, hw⟩ := h (k, t) List.mem_cons_self
    have et : t = c :: x := et
    have w0 : wordS (t ++ (32 :: joinL [32] ((q :: ps).map (·.2)))) fixed = (k, t.length) := hw _ (.inr ⟨_, rfl⟩)
    have ej : joinL [32] (((k, t) :: q :: ps).map (·.2)) = t ++ (32 :: joinL [32] ((q :: ps).map (·.2))) := by
      show t ++ [32] ++ joinL [32] ((q :: ps).map (·.2)) = _
      rw [List.append_assoc]
      rfl
    obtain ⟨ws, i1, i2⟩ := cut_again (q :: ps) (a + t.length + 1) fun p hp => h p (List.mem_cons_of_mem _ hp)
    rw [ej]
    generalize joinL [32] ((q :: ps).map (·.2)) = J at w0 i1
    rw [et, List.cons_append] at w0
    have hn : (wordS (c :: (x ++ 32 :: J)) fixed).2 ≠ 0 := by rw [w0]; simp
    rw [et, List.cons_append, cutR_word hc hn, w0]
    show ∃ ws, (cutR fixed (a + (c :: x).length) ((c :: (x ++ 32 :: J)).drop (c :: x).length)).map _ = .ok ws ∧ _
    have ed : (c :: (x ++ 32 :: J)).drop (c :: x).length = 32 :: J := by
      rw [← List.cons_append]
      exact List.drop_left
    have ek : (c :: (x ++ 32 :: J)).take (c :: x).length = c :: x := by
      rw [← List.cons_append]
      exact List.take_left
    rw [ed, cutR_blank (by decide), ← et, i1]
    refine ⟨_, rfl, ?_⟩
    rw [List.map_cons, i2]
    show (k, (c :: (x ++ 32 :: J)).take t.length) :: q :: ps = _
    rw [et, ek]

/-! ### the words that stand at a place, and the greatest of them -/
abbrev St3 := Nat × Nat × List Nat
def standsF (r : List Nat) (fixed : List (List Nat)) : List St3 :=
  (fixed.filter fun w => w.isPrefixOf r).map (fun w => (w.length, 1, 39 :: w)) ++ [(runS r letters, 0, kNAME)] ++ [(runS r figs, 0, kNUMBER)] ++ (if quoteS r = 0 then [] else [(quoteS r, 0, kQUOTE)])
def lt3 (s m : St3) : Prop := s.1 < m.1 ∨ (s.1 = m.1 ∧ (s.2.1 < m.2.1 ∨ (s.2.1 = m.2.1 ∧ s.2.2 = kNAME ∧ m.2.2 = kNUMBER)))
theorem fold_fixed (r : List Nat) : ∀ (ws : List (List Nat)) (v : List Nat), v.isPrefixOf r = true → ∃ w, (w = v ∨ w ∈ ws) ∧ w.isPrefixOf r = true ∧ ws.foldl (stepF r) (39 :: v, v.length) = (39 :: w, w.length)
  | [], v, h => ⟨v, .inl rfl, h, rfl⟩
  | u :: ws, v, h => by
    rw [List.foldl_cons]
    unfold stepF
    split
    · rename_i h2
      rw [Bool.and_eq_true] at h2
      obtain ⟨w, h3, h4, h5⟩ := fold_fixed r ws u h2.1
      refine ⟨w, ?_, h4, h5⟩
      rcases h3 with h3 | h3
      · subst h3; exact .inr List.mem_cons_self
      · exact .inr (List.mem_cons_of_mem _ h3)
    · obtain ⟨w, h3, h4, h5⟩ := fold_fixed r ws v h
      refine ⟨w, ?_, h4, h5⟩
      rcases h3 with h3 | h3
      · exact .inl h3
      · exact .inr (List.mem_cons_of_mem _ h3)
theorem fold_kind (r : List Nat) : ∀ (fixed : List (List Nat)) (g : List Nat × Nat), g.1.getD 0 0 ≠ 39 →
    (fixed.foldl (stepF r) g = g ∧ ∀ w ∈ fixed, w.isPrefixOf r = true → w.length < g.2) ∨ (∃ w ∈ fixed, w.isPrefixOf r = true ∧ fixed.foldl (stepF r) g = (39 :: w, w.length))
  | [], g, _ => .inl ⟨rfl, fun w hw => by cases hw⟩
  | u :: ws, g, hg => by
    rw [List.foldl_cons]
    by_cases hc : (u.isPrefixOf r && (decide (g.2 < u.length) || (decide (u.length = g.2) && !decide (g.1.getD 0 0 = 39)))) = true
    · have e : stepF r g u = (39 :: u, u.length) := by unfold stepF; rw [if_pos hc]
      rw [e]
      rw [Bool.and_eq_true] at hc
      obtain ⟨w, h3, h4, h5⟩ := fold_fixed r ws u hc.1
      refine .inr ⟨w, ?_, h4, h5⟩
      rcases h3 with h3 | h3
      · subst h3; exact List.mem_cons_self
      · exact List.mem_cons_of_mem _ h3
    · have e : stepF r g u = g := by unfold stepF; rw [if_neg hc]
      rw [e]
      rcases fold_kind r ws g hg with ⟨h1, h2⟩ | ⟨w, h1, h2, h3⟩
      · refine .inl ⟨h1, fun w hw hp => ?_⟩
        rcases List.mem_cons.mp hw with z | hw
        · subst z
          rw [hp, Bool.true_and, decide_eq_false hg] at hc
          simp only [Bool.not_false, Bool.and_true, Bool.or_eq_true, decide_eq_true_eq, not_or] at hc
          omega
        · exact h2 w hw hp
      · exact .inr ⟨w, List.mem_cons_of_mem _ h1, h2, h3⟩
theorem letters_figs : ∀ c ∈ letters, c ∉ figs ∧ c ≠ 34 := by decide +kernel
theorem figs_34 : ∀ c ∈ figs, c ≠ 34 := by decide +kernel
theorem run_first {r s : List Nat} (h : 0 < runS r s) : ∃ c x, r = c :: x ∧ c ∈ s := by
  cases r with
  | nil => cases h
  | cons c x =>
    refine ⟨c, x, rfl, ?_⟩
    unfold runS at h
    rw [List.takeWhile_cons] at h
    by_cases hc : c ∈ s
    · exact hc
    · simp [hc] at h
theorem quote_first {r : List Nat} (h : 0 < quoteS r) : ∃ x, r = 34 :: x := by
  cases r with
  | nil => cases h
  | cons c x =>
    rw [quoteS_cons] at h
    by_cases hc : c = 34
    · exact ⟨x, by rw [hc]⟩
    · rw [if_neg hc] at h; cases h
theorem name39 : kNAME.getD 0 0 ≠ 39 ∧ kNUMBER.getD 0 0 ≠ 39 ∧ kQUOTE.getD 0 0 ≠ 39 := by decide +kernel
theorem stepO_39 (f k : List Nat × Nat) (h1 : f.1.getD 0 0 ≠ 39) (h2 : k.1.getD 0 0 ≠ 39) : (stepO f k).1.getD 0 0 ≠ 39 := by
  unfold stepO
  split
  · exact h2
  · exact h1
theorem open0_39 (r : List Nat) : (open0 r).1.getD 0 0 ≠ 39 := stepO_39 _ _ (stepO_39 _ _ name39.1 name39.2.1) name39.2.2
/-- the open word: one of three, or none -/
theorem open0_is (r : List Nat) : (open0 r = (kNAME, runS r letters) ∧ runS r figs = 0 ∧ quoteS r = 0) ∨ (open0 r = (kNUMBER, runS r figs) ∧ runS r letters = 0 ∧ quoteS r = 0 ∧ 0 < runS r figs) ∨ (open0 r = (kQUOTE, quoteS r) ∧ runS r letters = 0 ∧ runS r figs = 0 ∧ 0 < quoteS r) := by
  have ab : 0 < runS r letters → runS r figs = 0 := fun h => by
    obtain ⟨c, x, rfl, hc⟩ := run_first h
    refine Nat.eq_zero_of_not_pos fun h2 => ?_
    obtain ⟨c', x', e, hc'⟩ := run_first h2
    cases e
    exact (letters_figs c hc).1 hc'
  have aq : 0 < runS r letters → quoteS r = 0 := fun h => by
    obtain ⟨c, x, rfl, hc⟩ := run_first h
    refine Nat.eq_zero_of_not_pos fun h2 => ?_
    obtain ⟨x', e⟩ := quote_first h2
    cases e
    exact (letters_figs _ hc).2 rfl
  have bq : 0 < runS r figs → quoteS r = 0 := fun h => by
    obtain ⟨c, x, rfl, hc⟩ := run_first h
    refine Nat.eq_zero_of_not_pos fun h2 => ?_
    obtain ⟨x', e⟩ := quote_first h2
    cases e
    exact figs_34 _ hc rfl
  unfold open0
  by_cases ha : 0 < runS r letters
  · left
    have h1 := ab ha
    have h2 := aq ha
    refine ⟨?_, h1, h2⟩
    unfold stepO
    rw [h1, h2]
    simp
  · by_cases hb : 0 < runS r figs
    · right; left
      have h2 := bq hb
      have h0 : runS r letters = 0 := by omega
      refine ⟨?_, h0, h2, hb⟩
      unfold stepO
      rw [h0, h2]
      simp [hb]
    · by_cases hq : 0 < quoteS r
      · right; right
        have h0 : runS r letters = 0 := by omega
        have h1 : runS r figs = 0 := by omega
        refine ⟨?_, h0, h1, hq⟩
        unfold stepO
        rw [h0, h1]
        simp [hq]
      · left
        have h0 : runS r letters = 0 := by omega
        have h1 : runS r figs = 0 := by omega
        have h2 : quoteS r = 0 := by omega
        refine ⟨?_, h1, h2⟩
        unfold stepO
        rw [h0, h1, h2]
        simp
theorem mem_stands {r : List Nat} {fixed : List (List Nat)} {s : St3} (h : s ∈ standsF r fixed) : (∃ w ∈ fixed, w.isPrefixOf r = true ∧ s = (w.length, 1, 39 :: w)) ∨ s = (runS r letters, 0, kNAME) ∨ s = (runS r figs, 0, kNUMBER) ∨ (s = (quoteS r, 0, kQUOTE) ∧ quoteS r ≠ 0) := by
  unfold standsF at h
  rcases List.mem_append.mp h with h | h
  · rcases List.mem_append.mp h with h | h
    · rcases List.mem_append.mp h with h | h
      · obtain ⟨w, hw, rfl⟩ := List.mem_map.mp h
        obtain ⟨h1, h2⟩ := List.mem_filter.mp hw
        exact .inl ⟨w, h1, h2, rfl⟩
      · exact .inr (.inl (List.mem_singleton.mp h))
    · exact .inr (.inr (.inl (List.mem_singleton.mp h)))
  · split at h
    · cases h
    · rename_i hq
      exact .inr (.inr (.inr ⟨List.mem_singleton.mp h, hq⟩))
theorem in_fixed {r : List Nat} {fixed : List (List Nat)} {w : List Nat} (h : w ∈ fixed) (hp : w.isPrefixOf r = true) : (w.length, 1, 39 :: w) ∈ standsF r fixed := by
  unfold standsF
  exact List.mem_append_left _ (List.mem_append_left _ (List.mem_append_left _ (List.mem_map.mpr ⟨w, List.mem_filter.mpr ⟨h, hp⟩, rfl⟩)))
theorem in_name {r : List Nat} {fixed : List (List Nat)} : (runS r letters, 0, kNAME) ∈ standsF r fixed := by
  unfold standsF
  exact List.mem_append_left _ (List.mem_append_left _ (List.mem_append_right _ List.mem_cons_self))
theorem in_number {r : List Nat} {fixed : List (List Nat)} : (runS r figs, 0, kNUMBER) ∈ standsF r fixed := by
  unfold standsF
  exact List.mem_append_left _ (List.mem_append_right _ List.mem_cons_self)
theorem in_quote {r : List Nat} {fixed : List (List Nat)} (h : quoteS r ≠ 0) : (quoteS r, 0, kQUOTE) ∈ standsF r fixed := by
  unfold standsF
  rw [if_neg h]
  exact List.mem_append_right _ List.mem_cons_self
theorem prefix_same {w v r : List Nat} (h1 : w.isPrefixOf r = true) (h2 : v.isPrefixOf r = true) (h3 : w.length = v.length) : w = v := by
  rw [List.isPrefixOf_iff_prefix, List.prefix_iff_eq_take] at h1 h2
  rw [h1, h2, h3]
/-- the greatest word that stands at a place is the one that is cut -/
theorem best (r : List Nat) (fixed : List (List Nat)) (hne : ∀ w ∈ fixed, w ≠ []) :
    ∃ m ∈ standsF r fixed, m.1 = (wordS r fixed).2 ∧ ((wordS r fixed).2 ≠ 0 → m.2.2 = (wordS r fixed).1) ∧ ∀ s ∈ standsF r fixed, s = m ∨ lt3 s m := by
  rcases fold_kind r fixed (open0 r) (open0_39 r) with ⟨h1, h2⟩ | ⟨w, hw, hp, h⟩
  · have hW : wordS r fixed = open0 r := h1
    rw [hW]
    by_cases hz : (open0 r).2 = 0
    · have h0 : runS r letters = 0 := by have := max_letters r fixed; rw [hW] at this; omega
      have h1 : runS r figs = 0 := by have := max_figs r fixed; rw [hW] at this; omega
      have h3 : quoteS r = 0 := by have := max_quote r fixed; rw [hW] at this; omega
      refine ⟨_, in_number, by rw [h1, hz], fun z => absurd hz z, fun s hs => ?_⟩
      rcases mem_stands hs with ⟨w, hw, hp, rfl⟩ | rfl | rfl | ⟨rfl, hq⟩
      · have := h2 w hw hp
        rw [hz] at this
        omega
      · right
        exact .inr ⟨by show runS r letters = runS r figs; rw [h0, h1], .inr ⟨rfl, rfl, rfl⟩⟩
      · exact .inl rfl
      · exact absurd h3 hq
    · rcases open0_is r with ⟨e, e1, e2⟩ | ⟨e, e1, e2, e3⟩ | ⟨e, e1, e2, e3⟩
      · rw [e] at h2 hz ⊢
        refine ⟨_, in_name, rfl, fun _ => rfl, fun s hs => ?_⟩
        rcases mem_stands hs with ⟨w, hw, hp, rfl⟩ | rfl | rfl | ⟨rfl, hq⟩
        · exact .inr (.inl (h2 w hw hp))
        · exact .inl rfl
        · refine .inr (.inl ?_)
          show runS r figs < runS r letters
          have : runS r letters ≠ 0 := hz
          omega
        · exact absurd e2 hq
      · rw [e] at h2 hz ⊢
        refine ⟨_, in_number, rfl, fun _ => rfl, fun s hs => ?_⟩
        rcases mem_stands hs with ⟨w, hw, hp, rfl⟩ | rfl | rfl | ⟨rfl, hq⟩
        · exact .inr (.inl (h2 w hw hp))
        · refine .inr (.inl ?_)
          show runS r letters < runS r figs
          omega
        · exact .inl rfl
        · exact absurd e2 hq
      · rw [e] at h2 hz ⊢
        refine ⟨_, in_quote (by omega), rfl, fun _ => rfl, fun s hs => ?_⟩
        rcases mem_stands hs with ⟨w, hw, hp, rfl⟩ | rfl | rfl | ⟨rfl, hq⟩
        · exact .inr (.inl (h2 w hw hp))
        · refine .inr (.inl ?_)
          show runS r letters < quoteS r
          omega
        · refine .inr (.inl ?_)
          show runS r figs < quoteS r
          omega
        · exact .inl rfl
  · have hW : wordS r fixed = (39 :: w, w.length) := h
    have m1 := max_letters r fixed
    have m2 := max_figs r fixed
    have m3 := max_quote r fixed
    have m4 := max_fixed r fixed
    rw [hW] at m1 m2 m3 m4 ⊢
    refine ⟨_, in_fixed hw hp, rfl, fun _ => rfl, fun s hs => ?_⟩
    have opn : ∀ n k, n ≤ w.length → (n, 0, k) = (w.length, 1, 39 :: w) ∨ lt3 (n, 0, k) (w.length, 1, 39 :: w) := fun n k hn => by
      right
      by_cases e : n = w.length
      · exact .inr ⟨e, .inl (by show 0 < 1; decide)⟩
      · exact .inl (by show n < w.length; omega)
    rcases mem_stands hs with ⟨v, hv, hq, rfl⟩ | rfl | rfl | ⟨rfl, hq⟩
    · by_cases e : v.length = w.length
      · left
        rw [prefix_same hq hp e]
      · right
        have := m4 v hv hq
        exact .inl (by show v.length < w.length; have : v.length ≤ w.length := this; omega)
    · exact opn _ _ m1
    · exact opn _ _ m2
    · exact opn _ _ m3
/-! by data -/
def sD (s : St3) : Dat := .tup [.int (s.1 : Int), .int (s.2.1 : Int), .txt s.2.2]
def sP (s : St3) : PyData := .tuple [.int (s.1 : Int), .int (s.2.1 : Int), .str (strL s.2.2)]
theorem toPys_stands : ∀ ss : List St3, toPys (ss.map sD) = ss.map sP
  | [] => rfl
  | s :: r => by
    show toPy (sD s) :: toPys (r.map sD) = _
    rw [toPys_stands r]
    rfl
theorem plain_stands : ∀ ss : List St3, plainDs (ss.map sD) = true
  | [] => rfl
  | t :: r => by
    show (plainD (sD t) && plainDs (r.map sD)) = true
    rw [plain_stands r]; rfl
theorem depth_stands : ∀ ss : List St3, PyData.depthAll (ss.map sP) ≤ 1
  | [] => Nat.zero_le _
  | t :: r => by
    show max (PyData.depth (sP t)) (PyData.depthAll (r.map sP)) ≤ 1
    have h1 := depth_stands r
    have h2 : PyData.depth (sP t) = 1 := rfl
    omega
theorem alike_stands (ss : List St3) : PySem.W.AlikeAll (ss.map sP) := by
  constructor
  · intro x hx y hy
    obtain ⟨a, _, rfl⟩ := List.mem_map.mp hx
    obtain ⟨b, _, rfl⟩ := List.mem_map.mp hy
    rfl
  · intro x hx
    obtain ⟨a, _, rfl⟩ := List.mem_map.mp hx
    intro z
    cases z
theorem eqv_int (a b : Int) : PyData.eqv (.int a) (.int b) = decide (a = b) := by
  show (a == b) = decide (a = b)
  rw [Bool.eq_iff_iff, beq_iff_eq, decide_eq_true_eq]
theorem lt_sP (s t : St3) : PySem.W.dataLt (sP s) (sP t) = if (s.1 : Int) = t.1 then (if (s.2.1 : Int) = t.2.1 then PyProof.Rows.lexLt PyProof.Rows.itemOrd (PySem.W.keyToksAll [.str (strL s.2.2)]) (PySem.W.keyToksAll [.str (strL t.2.2)]) else decide ((s.2.1 : Int) < t.2.1)) else decide ((s.1 : Int) < t.1) := by
  unfold sP
  rw [PySem.W.dataLt_tuple, PySem.W.dataLt_cons rfl, PySem.W.dataLt_cons rfl, eqv_int, eqv_int, PySem.W.dataLt_int, PySem.W.dataLt_int]
  simp only [decide_eq_true_eq]
theorem name_number : PyProof.Rows.lexLt PyProof.Rows.itemOrd (PySem.W.keyToksAll [.str (strL kNAME)]) (PySem.W.keyToksAll [.str (strL kNUMBER)]) = true ∧ PyProof.Rows.lexLt PyProof.Rows.itemOrd (PySem.W.keyToksAll [.str (strL kNUMBER)]) (PySem.W.keyToksAll [.str (strL kNAME)]) = false := by decide +kernel
theorem lt_of3 {s m : St3} (h : lt3 s m) : PySem.W.dataLt (sP s) (sP m) = true ∧ PySem.W.dataLt (sP m) (sP s) = false := by
  rw [lt_sP, lt_sP]
  rcases h with h | ⟨h1, h | ⟨h2, h3, h4⟩⟩
  · constructor
    · rw [if_neg (by omega)]; exact decide_eq_true (by omega)
    · rw [if_neg (by omega)]; exact decide_eq_false (by omega)
  · constructor
    · rw [if_pos (by omega), if_neg (by omega)]; exact decide_eq_true (by omega)
    · rw [if_pos (by omega), if_neg (by omega)]; exact decide_eq_false (by omega)
  · constructor
    · rw [if_pos (by omega), if_pos (by omega), h3, h4]; exact name_number.1
    · rw [if_pos (by omega), if_pos (by omega), h3, h4]; exact name_number.2
theorem sP_inj {s t : St3} (h : sP s = sP t) : s = t := by
  unfold sP at h
  have h := PyData.tuple.inj h
  have e1 := PyData.int.inj (List.cons.inj h).1
  have h := (List.cons.inj h).2
  have e2 := PyData.int.inj (List.cons.inj h).1
  have h := (List.cons.inj h).2
  have e3 := strL_inj (PyData.str.inj (List.cons.inj h).1)
  obtain ⟨a, b, c⟩ := s
  obtain ⟨a', b', c'⟩ := t
  have e1 : (a : Int) = a' := e1
  have e2 : (b : Int) = b' := e2
  have e3 : c = c' := e3
  have e1 : a = a' := by omega
  have e2 : b = b' := by omega
  rw [e1, e2, e3]
theorem cs_best {K : PySem.W.Frag} {ss : List St3} {m : St3} (hm : m ∈ ss) (h : ∀ s ∈ ss, s = m ∨ lt3 s m) : CallS K (uMaxU K) [.lst (ss.map sD)] (sD m) := by
  cases ss with
  | nil => cases hm
  | cons s r =>
    have e1 : toPys (sD s :: r.map sD) = sP s :: r.map sP := toPys_stands (s :: r)
    have e2 : toPys (r.map sD) = r.map sP := toPys_stands r
    have e0 : toPy (sD s) = sP s := rfl
    refine cs_maxD (plain_stands (s :: r)) (by rw [e1]; exact alike_stands (s :: r)) (by rw [e1]; exact Nat.le_trans (depth_stands (s :: r)) (by decide)) fun i d hd he => ?_
    have hmax : PySem.W.maxD (sP s) (r.map sP) = sP m := by
      refine maxD_eq _ _ (List.mem_map.mpr ⟨m, hm, rfl⟩ : sP m ∈ (s :: r).map sP) (fun y hy => ?_) (fun y hy => ?_)
      · obtain ⟨z, hz, rfl⟩ := List.mem_map.mp (show y ∈ (s :: r).map sP from hy)
        rcases h z hz with e | e
        · rw [e]; exact PySem.W.dataLt_self _
        · exact (lt_of3 e).2
      · obtain ⟨z, hz, rfl⟩ := List.mem_map.mp (show y ∈ (s :: r).map sP from hy)
        rcases h z hz with e | e
        · rw [e]; exact .inl rfl
        · exact .inr (lt_of3 e).1
    rw [e0, e2, hmax] at he
    have hd : ((s :: r).map sD)[i]? = some d := hd
    rw [List.getElem?_map] at hd
    cases hz : (s :: r)[i]? with
    | none => rw [hz] at hd; cases hd
    | some z =>
      rw [hz] at hd
      have hd : sD z = d := Option.some.inj hd
      rw [← hd] at he ⊢
      have he : sP z = sP m := he
      rw [sP_inj he]
/-! a text parted at its marks -/
theorem until_all : ∀ x : List Nat, 34 ∉ x → untilQ x = x
  | [], _ => rfl
  | c :: x, h => by
    have hc : c ≠ 34 := fun z => h (by rw [z]; exact List.mem_cons_self)
    unfold untilQ
    rw [List.takeWhile_cons, decide_eq_true hc]
    simp only [if_true]
    rw [show List.takeWhile (fun c => decide (c ≠ 34)) x = untilQ x from rfl, until_all x fun z => h (List.mem_cons_of_mem _ z)]
theorem until_mark : ∀ (x z : List Nat), 34 ∉ x → untilQ (x ++ 34 :: z) = x
  | [], z, _ => by unfold untilQ; rw [List.nil_append, List.takeWhile_cons]; simp
  | c :: x, z, h => by
    have hc : c ≠ 34 := fun z => h (by rw [z]; exact List.mem_cons_self)
    unfold untilQ
    rw [List.cons_append, List.takeWhile_cons, decide_eq_true hc]
    simp only [if_true]
    rw [show List.takeWhile (fun c => decide (c ≠ 34)) (x ++ 34 :: z) = untilQ (x ++ 34 :: z) from rfl, until_mark x z fun z => h (List.mem_cons_of_mem _ z)]
theorem strL_of (p : Str) : strL p.cps.toList = p := by
  cases p
  unfold strL
  rw [Array.toArray_toList]
theorem split_mark (x : List Nat) : ∃ rest, Txt.split (strL x) (strL [34]) = strL (untilQ x) :: rest ∧ (rest = [] ↔ (untilQ x).length = x.length) := by
  have hj := StrLaws.join_split (strL x) (strL [34])
  have hf := StrLaws.split_free (strL x) 34
  rw [show (⟨#[34]⟩ : Str) = strL [34] from rfl] at hf
  have hp := split_pos (strL x) (strL [34])
  cases hl : Txt.split (strL x) (strL [34]) with
  | nil => rw [hl] at hp; simp at hp
  | cons p rest =>
    rw [hl] at hj hf
    have hfp := hf p List.mem_cons_self
    cases rest with
    | nil =>
      have e : p = strL x := hj
      rw [e] at hfp ⊢
      rw [strL_cps] at hfp
      refine ⟨[], by rw [until_all x hfp], ?_⟩
      rw [until_all x hfp]
      simp
    | cons q rest =>
      have e : p ++ strL [34] ++ Str.join (strL [34]) (q :: rest) = strL x := hj
      rw [← strL_of p, ← strL_of (Str.join (strL [34]) (q :: rest)), strL_app, strL_app] at e
      have e := strL_inj e
      rw [List.append_assoc] at e
      have e : p.cps.toList ++ 34 :: (Str.join (strL [34]) (q :: rest)).cps.toList = x := e
      refine ⟨q :: rest, by rw [← e, until_mark _ _ hfp, strL_of], ?_⟩
      rw [← e, until_mark _ _ hfp, List.length_append]
      simp

abbrev PF (d : Dat) : Post := { nx := fun _ => d = .non, rt := fun d' => d' = d }
/-! ### the law's cells -/
def cell0 (ns : List Int) (k : Int) : Int := if ns.isEmpty then 7919 * k + 11 else ns.getD (k % (ns.length : Int)).toNat 0 * 48271 + 104729 * k + k / (ns.length : Int) * 7919
def cellF (ns : List Int) (k : Int) : Int :=
  (cell0 ns k % 2147483647 * (cell0 ns k % 2147483647) % 2147483629 * (cell0 ns k % 2147483647 * (cell0 ns k % 2147483647) % 2147483629) + 69621 * (cell0 ns k % 2147483647 * (cell0 ns k % 2147483647) % 2147483629) + k) % 2147483587
theorem cellF_lo (ns : List Int) (k : Int) : 0 ≤ cellF ns k := Int.emod_nonneg _ (by decide)
theorem cellF_hi (ns : List Int) (k : Int) : cellF ns k < 2147483587 := Int.emod_lt_of_pos _ (by decide)
def R__law_cell (ds : List Dat) (d : Dat) : Prop := ∃ ns k, ds = [.scr ns, .int k] ∧ ns.length ≤ 63 ∧ 0 ≤ k ∧ k ≤ 1000000 ∧ d = .int (cellF ns k)
theorem r__law_cell {ns : List Int} {k : Int} (h : ns.length ≤ 63) (h0 : 0 ≤ k) (h1 : k ≤ 1000000) : R__law_cell [.scr ns, .int k] (.int (cellF ns k)) := ⟨ns, k, rfl, h, h0, h1, rfl⟩
theorem h__law_cell {K : PySem.W.Frag} {W : WX} (ds : List Dat) (d : Dat) (h : R__law_cell ds d) : SemS K W (T__law_cell K) (slots 4 ds) (PF d) := by
  obtain ⟨ns, k, rfl, hl, h0, h1, rfl⟩ := h
  have main : ∀ ρ', ρ'[1]? = some (Sl.dat (.int k)) → ρ'[2]? = some (Sl.dat (.int (cell0 ns k))) → ρ'.length = 4 → SemS K W (tSeq (tAsg (tOp uMod (tVar 2) (tC (.int 2147483647))) (gName 3))
      (tSeq (tAsg (tOp uMod (tOp uMul (tVar 3) (tVar 3)) (tC (.int 2147483629))) (gName 3))
      (tRet (tOp uMod (tOp (uAdd K) (tOp (uAdd K) (tOp uMul (tVar 3) (tVar 3)) (tOp uMul (tC (.int 69621)) (tVar 3))) (tVar 1)) (tC (.int 2147483587)))))) ρ' (PF (.int (cellF ns k))) := by
    intro ρ' h1' h2' h3'
    obtain ⟨s0, s1, s2, s3, rfl⟩ : ∃ s0 s1 s2 s3, ρ' = [s0, s1, s2, s3] := by
      match ρ', h3' with
      | [a, b, c, d], _ => exact ⟨a, b, c, d, rfl⟩
    cases h1'
    cases h2'
    apply ss_seq
    apply ss_asg
    · walk_at "sem"
    apply ss_seq
    apply ss_asg
    · walk_at "sem"
    apply ss_ret
    · walk_at "sem"
    · rfl
  apply ss_seq
  apply ss_asg
  · walk_at "sem"
  apply ss_seq
  apply ss_if
  · walk_at "test"
  · intro hb
    have hne : ns.isEmpty = false := by
      cases ns with
      | nil => cases hb
      | cons a r => rfl
    have hp : 0 < ns.length := by
      cases ns with
      | nil => cases hb
      | cons a r => exact Nat.succ_pos _
    have hx : atI ns (k % (ns.length : Int)) = some (ns.getD (k % (ns.length : Int)).toNat 0) := atI_getD 0 (Int.emod_nonneg _ (by omega)) (Int.emod_lt_of_pos _ (by omega))
    apply ss_seq
    apply ss_asg
    · walk_at "sem"
    apply ss_asg
    · walk_at "sem"
    refine main _ rfl ?_ rfl
    unfold cell0
    rw [hne]
    rfl
  · intro hb
    have hne : ns.isEmpty = true := by
      cases ns with
      | nil => rfl
      | cons a r => cases hb
    apply ss_next
    refine main _ rfl ?_ rfl
    unfold cell0
    rw [hne]
    rfl
def signs : List Nat := (Str.ofString "!#$&()*+,-./:;<=>?@\x5b]^{|}~").cps.toList
/-! ### _law_signs, _law_fixed_by -/
def R__law_signs (ds : List Dat) (d : Dat) : Prop := ds = [] ∧ d = .txt signs
theorem h__law_signs {K : PySem.W.Frag} {W : WX} (ds : List Dat) (d : Dat) (h : R__law_signs ds d) : SemS K W (T__law_signs K) (slots 0 ds) (PF d) := by
  obtain ⟨rfl, rfl⟩ := h
  apply ss_ret
  · walk_at "sem"
  · rfl
def usual : List (List Nat) := (Txt.split (Str.ofString "if in then a ab < <= = == ( ) - -> + zz no > >=") (Str.ofString " ")).map fun s => s.cps.toList
theorem usual_len : usual.length = 18 := by decide +kernel
theorem usual_fit : ∀ t ∈ usual, t.length ≤ 8 := by decide +kernel
theorem letters_len : letters.length = 26 := by decide +kernel
theorem signs_len : signs.length = 26 := by decide +kernel
def emp : List Nat := (Str.ofString "").cps.toList
theorem emp_nil : emp = [] := by decide +kernel
def fixedBy (c : Int) : List Nat :=
  if decide (0 < c % 3) then usual.getD (c / 3 % 18).toNat []
  else if decide (c / 3 % 2 = 0) then joinL emp ((List.range (1 + c / 2000 % 8).toNat).map fun k : Nat => [letters.getD ((c / 6 + (k : Int) * (1 + c / 78 % 25)) % 26).toNat 0])
  else joinL emp ((List.range (1 + c / 5000 % 3).toNat).map fun k : Nat => [signs.getD ((c / 6 + (k : Int) * (c / 162 % 26)) % 26).toNat 0])
theorem joinL_len {α : Type} (f : α → List Nat) (m : Nat) : ∀ xs : List α, (∀ x ∈ xs, (f x).length ≤ m) → (joinL emp (xs.map f)).length ≤ xs.length * m
  | [], _ => Nat.zero_le _
  | [x], h => by
    have h1 := h x List.mem_cons_self
    show (f x).length ≤ 1 * m
    omega
  | x :: y :: r, h => by
    have h1 := h x List.mem_cons_self
    have h2 := joinL_len f m (y :: r) fun z hz => h z (List.mem_cons_of_mem _ hz)
    show (f x ++ emp ++ joinL emp ((y :: r).map f)).length ≤ (r.length + 1 + 1) * m
    rw [emp_nil] at h2 ⊢
    rw [List.length_append, List.length_append, Nat.succ_mul]
    rw [List.length_cons] at h2
    simp only [List.length_nil]
    omega
theorem getD_mem_or {α : Type} (P : α → Prop) (d : α) (hd : P d) : ∀ (xs : List α) (i : Nat), (∀ x ∈ xs, P x) → P (xs.getD i d)
  | [], i, _ => by cases i <;> exact hd
  | x :: r, 0, h => h x List.mem_cons_self
  | x :: r, i + 1, h => getD_mem_or P d hd r i fun y hy => h y (List.mem_cons_of_mem _ hy)
theorem fixedBy_len (c : Int) : (fixedBy c).length ≤ 8 := by
  unfold fixedBy
  split
  · exact getD_mem_or (fun t => t.length ≤ 8) [] (Nat.zero_le _) usual _ usual_fit
  · split
    · refine Nat.le_trans (joinL_len _ 1 _ fun x _ => Nat.le_refl _) ?_
      rw [List.length_range]; omega
    · refine Nat.le_trans (joinL_len _ 1 _ fun x _ => Nat.le_refl _) ?_
      rw [List.length_range]; omega
def R__law_fixed_by (ds : List Dat) (d : Dat) : Prop := ∃ c, ds = [.int c] ∧ 0 ≤ c ∧ c < 2147483648 ∧ d = .txt (fixedBy c)
theorem r__law_fixed_by {c : Int} (h0 : 0 ≤ c) (h1 : c < 2147483648) : R__law_fixed_by [.int c] (.txt (fixedBy c)) := ⟨c, rfl, h0, h1, rfl⟩
theorem splitE : (Txt.split (strL (Str.ofString "if in then a ab < <= = == ( ) - -> + zz no > >=").cps.toList) (strL (Str.ofString " ").cps.toList)) = Txt.split (Str.ofString "if in then a ab < <= = == ( ) - -> + zz no > >=") (Str.ofString " ") := by
  unfold strL
  rw [Array.toArray_toList, Array.toArray_toList]
local macro_rules | `(tactic| walk_at "fn") => `(tactic| exact ⟨rfl, rfl⟩)
theorem h__law_fixed_by {K : PySem.W.Frag} {W : WX} (ds : List Dat) (d : Dat) (h : R__law_fixed_by ds d) : SemS K W (T__law_fixed_by K (spD K R__law_signs)) (slots 5 ds) (PF d) := by
  obtain ⟨c, rfl, h0, h1, rfl⟩ := h
  have hU : (Dat.lst ((Txt.split (strL (Str.ofString "if in then a ab < <= = == ( ) - -> + zz no > >=").cps.toList) (strL (Str.ofString " ").cps.toList)).map fun s => .txt s.cps.toList)) = .lst (usual.map .txt) := by
    rw [splitE]
    unfold usual
    rw [List.map_map]
    rfl
  have hul := usual_len
  have hll := letters_len
  have hsl := signs_len
  apply ss_seq
  apply ss_asg
  · walk_at "sem"
  apply ss_seq
  refine ss_asg (d := .lst (usual.map .txt)) (s_is (s_m1 s_str s_str (ms_split (by decide +kernel) (by decide +kernel))) hU) ?_
  apply ss_seq
  apply ss_if
  · walk_at "test"
  · intro hb
    have hx : atI (usual.map Dat.txt) (c / 3 % 18) = some (.txt (usual.getD (c / 3 % 18).toNat [])) := atI_mapD _ [] (by omega) (by omega)
    apply ss_ret
    · walk_at "sem"
    · show Dat.txt _ = Dat.txt (fixedBy c)
      unfold fixedBy
      rw [if_pos hb]
  · intro hb
    apply ss_next
    apply ss_seq
    apply ss_if
    · walk_at "test"
    · intro hb2
      apply ss_seq
      apply ss_asg
      · walk_at "sem"
      apply ss_ret
      · apply s_m1
        · exact s_str
        · apply s_ofN
          apply sn_lcM
          · walk_at "iter"
          · rw [List.length_range]; unfold sizeLine; omega
          · intro k hk
            have hk2 := List.mem_range.mp hk
            have hx : atI letters ((c / 6 + (k : Int) * (1 + c / 78 % 25)) % 26) = some (letters.getD ((c / 6 + (k : Int) * (1 + c / 78 % 25)) % 26).toNat 0) := atI_getD 0 (by omega) (by omega)
            apply s_op
            · apply s_var; rfl
            · apply s_op
              · apply s_op
                · walk_at "sem"
                · apply s_op
                  · walk_at "sem"
                  · walk_at "sem"
                  · apply os_mul
                    exact Or.inr ⟨by omega, by omega⟩
                · walk_at "ops"
              · walk_at "sem"
              · walk_at "ops"
            · apply os_ixT
              · exact hx
              · show letters.length ≤ sizeLine
                rw [hll]; decide
        · apply ms_joinM
          have := sum_len_le (fun k : Nat => [letters.getD ((c / 6 + (k : Int) * (1 + c / 78 % 25)) % 26).toNat 0]) 1 (List.range (1 + c / 2000 % 8).toNat) fun _ _ => Nat.le_refl _
          rw [List.length_range] at this ⊢
          have e0 : (Str.ofString "").cps.toList.length = 0 := by decide +kernel
          rw [e0]
          omega
      · show Dat.txt _ = Dat.txt (fixedBy c)
        unfold fixedBy
        rw [if_neg (by rw [hb]; decide), if_pos hb2]
        rfl
    · intro hb2
      apply ss_next
      apply ss_seq
      apply ss_asg
      · walk_at "sem"
      apply ss_ret
      · apply s_m1
        · exact s_str
        · apply s_ofN
          apply sn_lcM
          · walk_at "iter"
          · rw [List.length_range]; unfold sizeLine; omega
          · intro k hk
            have hk2 := List.mem_range.mp hk
            have hx : atI signs ((c / 6 + (k : Int) * (c / 162 % 26)) % 26) = some (signs.getD ((c / 6 + (k : Int) * (c / 162 % 26)) % 26).toNat 0) := atI_getD 0 (by omega) (by omega)
            apply s_op
            · walk_at "sem"
            · apply s_op
              · apply s_op
                · walk_at "sem"
                · apply s_op
                  · walk_at "sem"
                  · walk_at "sem"
                  · apply os_mul
                    exact Or.inr ⟨by omega, by omega⟩
                · walk_at "ops"
              · walk_at "sem"
              · walk_at "ops"
            · apply os_ixT
              · exact hx
              · rw [hsl]; decide
        · apply ms_joinM
          have := sum_len_le (fun k : Nat => [signs.getD ((c / 6 + (k : Int) * (c / 162 % 26)) % 26).toNat 0]) 1 (List.range (1 + c / 5000 % 3).toNat) fun _ _ => Nat.le_refl _
          rw [List.length_range] at this ⊢
          have e0 : (Str.ofString "").cps.toList.length = 0 := by decide +kernel
          rw [e0]
          omega
      · show Dat.txt _ = Dat.txt (fixedBy c)
        unfold fixedBy
        rw [if_neg (by rw [hb]; decide), if_neg (by rw [hb2]; decide)]
        rfl

/-! ### kind_of, run_of -/
def quo : List Nat := (Str.ofString "'").cps.toList
theorem quo1 : quo = [39] := by decide +kernel
def R_kind_of (ds : List Dat) (d : Dat) : Prop := ∃ t, ds = [.txt t] ∧ t.length ≤ 1000 ∧ d = .txt (39 :: t)
theorem r_kind_of {t : List Nat} (h : t.length ≤ 1000) : R_kind_of [.txt t] (.txt (39 :: t)) := ⟨_, rfl, h, rfl⟩
theorem h_kind_of {K : PySem.W.Frag} {W : WX} (ds : List Dat) (d : Dat) (h : R_kind_of ds d) : SemS K W (T_kind_of K) (slots 1 ds) (PF d) := by
  obtain ⟨t, rfl, hl, rfl⟩ := h
  have hq : quo.length = 1 := by rw [quo1]; rfl
  refine ss_ret (d := .txt (39 :: t)) (s_is (d := .txt (quo ++ t)) ?_ (by rw [quo1]; rfl)) rfl
  apply s_op
  · exact s_str
  · walk_at "sem"
  · apply os_addT
    show quo.length + t.length ≤ sizeLine
    unfold sizeLine
    omega
def R_run_of (ds : List Dat) (d : Dat) : Prop := ∃ t s, ∃ a : Nat, ds = [.txt t, .int (a : Int), .txt s] ∧ a ≤ t.length ∧ t.length ≤ 1000000 ∧ d = .int ((runS (t.drop a) s : Nat) : Int)
theorem r_run_of {t s : List Nat} {a : Nat} (h : a ≤ t.length) (h2 : t.length ≤ 1000000) : R_run_of [.txt t, .int (a : Int), .txt s] (.int ((runS (t.drop a) s : Nat) : Int)) := ⟨t, s, a, rfl, h, h2, rfl⟩
/-- a run goes on just where it is not at its end -/
theorem run_more (s : List Nat) : ∀ (r : List Nat) (j : Nat), j ≤ runS r s → ((∃ c, r[j]? = some c ∧ c ∈ s) ↔ j < runS r s)
  | [], j, h => by
    have : runS [] s = 0 := rfl
    simp [this]
  | c :: r, 0, h => by
    unfold runS
    rw [List.takeWhile_cons]
    by_cases hc : c ∈ s
    · simp [hc]
    · simp [hc]
  | c :: r, j + 1, h => by
    unfold runS at h ⊢
    rw [List.takeWhile_cons] at h ⊢
    by_cases hc : c ∈ s
    · rw [decide_eq_true hc] at h ⊢
      simp only [if_true, List.length_cons, List.getElem?_cons_succ] at h ⊢
      have ih := run_more s r j (by unfold runS; omega)
      unfold runS at ih
      rw [ih]
      omega
    · rw [decide_eq_false hc] at h
      simp at h
theorem h_run_of {K : PySem.W.Frag} {W : WX} (ds : List Dat) (d : Dat) (h : R_run_of ds d) : SemS K W (T_run_of K) (slots 4 ds) (PF d) := by
  obtain ⟨t, s, a, rfl, ha, hl, rfl⟩ := h
  have hS : sizeLine = 16777216 := rfl
  have hrl : runS (t.drop a) s ≤ t.length - a := by have := runS_len (t.drop a) s; rwa [List.length_drop] at this
  apply ss_seq
  apply ss_asg
  · walk_at "sem"
  apply ss_seq
  refine ss_while (fun m ρ => ∃ j : Nat, ρ = [.dat (.txt t), .dat (.int (a : Int)), .dat (.txt s), .dat (.int ((a + j : Nat) : Int))] ∧ j ≤ runS (t.drop a) s ∧ m = runS (t.drop a) s - j) (runS (t.drop a) s) ⟨0, rfl, Nat.zero_le _, rfl⟩ ?_
  rintro m ρ1 ⟨j, rfl, hj, rfl⟩
  have hm := run_more s (t.drop a) j hj
  rw [List.getElem?_drop] at hm
  refine ⟨decide (j < runS (t.drop a) s), ?_, ?_, ?_⟩
  · by_cases hlt : a + j < t.length
    · have hx : atI t ((a + j : Nat) : Int) = some t[a + j] := atI_nat (List.getElem?_eq_getElem hlt)
      refine st_is (st_and (k := decide (((a + j : Nat) : Int) < (t.length : Int))) (l := decide (t[a + j] ∈ s)) ?_ (fun _ => ?_)) ?_
      · walk_at "test"
      · apply st_test
        apply s_op
        · apply s_op
          · walk_at "sem"
          · walk_at "sem"
          · exact os_ixT hx (by omega)
        · walk_at "sem"
        · exact os_inC
      · rw [decide_eq_true (by omega : ((a + j : Nat) : Int) < (t.length : Int)), Bool.true_and, Bool.eq_iff_iff, decide_eq_true_eq, decide_eq_true_eq, ← hm, List.getElem?_eq_getElem hlt]
        constructor
        · intro h; exact ⟨_, rfl, h⟩
        · rintro ⟨c, hc, h⟩; cases hc; exact h
    · refine st_is (st_and (k := false) (l := false) ?_ (fun z => by cases z)) ?_
      · refine st_is (e := decide (((a + j : Nat) : Int) < (t.length : Int))) ?_ (decide_eq_false (by omega))
        walk_at "test"
      · symm
        refine decide_eq_false fun z => ?_
        obtain ⟨c, hc, _⟩ := hm.mpr z
        rw [List.getElem?_eq_none (by omega)] at hc
        cases hc
  · intro hk
    have hlt := of_decide_eq_true hk
    refine ss_plus (a := ((a + j : Nat) : Int)) (b := 1) rfl s_int ?_
    exact ⟨runS (t.drop a) s - (j + 1), by omega, j + 1, rfl, hlt, rfl⟩
  · intro hk
    have hge : ¬ j < runS (t.drop a) s := of_decide_eq_false hk
    refine ss_ret (d := .int ((runS (t.drop a) s : Nat) : Int)) (s_is (d := .int (((a + j : Nat) : Int) - (a : Int))) ?_ ?_) rfl
    · walk_at "sem"
    · have : j = runS (t.drop a) s := by omega
      rw [this]
      congr 1
      omega
/-! ### quote_at -/
def mark : List Nat := (Str.ofString "\"").cps.toList
theorem mark1 : mark = [34] := by decide +kernel
def nl : List Nat := (Str.ofString "\n").cps.toList
theorem nl1 : nl = [10] := by decide +kernel
def R_quote_at (ds : List Dat) (d : Dat) : Prop := ∃ t, ∃ a : Nat, ds = [.txt t, .int (a : Int)] ∧ a < t.length ∧ t.length ≤ 1000000 ∧ d = .int ((quoteS (t.drop a) : Nat) : Int)
theorem r_quote_at {t : List Nat} {a : Nat} (h : a < t.length) (h2 : t.length ≤ 1000000) : R_quote_at [.txt t, .int (a : Int)] (.int ((quoteS (t.drop a) : Nat) : Int)) := ⟨t, a, rfl, h, h2, rfl⟩
theorem getD_strL (t : List Nat) (v : Nat) : (strL t).cps.getD v 0 = t.getD v 0 := by
  simp [strL, Array.getD_eq_getD_getElem?, List.getD_eq_getElem?_getD]
/-- the next mark -/
theorem find_mark (t : List Nat) (b : Nat) (hb : b ≤ t.length) :
    (Txt.find3 (strL t) (strL [34]) (b : Int) = -1 ∧ (untilQ (t.drop b)).length = (t.drop b).length) ∨
    (Txt.find3 (strL t) (strL [34]) (b : Int) = ((b + (untilQ (t.drop b)).length : Nat) : Int) ∧ (untilQ (t.drop b)).length < (t.drop b).length) := by
  have tw : ∀ (l : List Nat) (n : Nat), n ≤ l.length → (∀ i, i < n → l.getD i 0 ≠ 34) → (n < l.length → l.getD n 0 = 34) → (untilQ l).length = n := by
    intro l
    induction l with
    | nil => intro n hn _ _; simp at hn; subst hn; rfl
    | cons c l ih =>
      intro n hn h1 h2
      unfold untilQ
      rw [List.takeWhile_cons]
      cases n with
      | zero =>
        have : c = 34 := h2 (by simp)
        subst this
        simp
      | succ n =>
        have hc : c ≠ 34 := h1 0 (by omega)
        rw [decide_eq_true hc]
        simp only [if_true, List.length_cons]
        have := ih n (by simpa using hn) (fun i hi => h1 (i + 1) (by omega)) (fun hi => h2 (by simpa using hi))
        unfold untilQ at this
        rw [this]
  have hf : fromIndex (strL t).length (b : Int) = b := by
    unfold fromIndex
    rw [if_neg (by omega)]
    omega
  have hd : ∀ i, (t.drop b).getD i 0 = t.getD (b + i) 0 := fun i => by rw [List.getD_eq_getElem?_getD, List.getD_eq_getElem?_getD, List.getElem?_drop]
  rcases StrLaws.find3_spec (strL t) 34 (b : Int) with ⟨h1, h2⟩ | ⟨k, h1, h2, h3, h4, h5⟩
  · left
    rw [hf, strL_len] at h2
    refine ⟨h1, tw _ _ (Nat.le_refl _) (fun i hi => ?_) (fun h => absurd h (Nat.lt_irrefl _))⟩
    rw [hd, ← getD_strL]
    rw [List.length_drop] at hi
    exact h2 (b + i) (by omega) (by omega)
  · right
    rw [hf] at h2 h5
    rw [strL_len] at h3
    have e : (untilQ (t.drop b)).length = k - b := by
      refine tw _ _ (by rw [List.length_drop]; omega) (fun i hi => ?_) (fun _ => ?_)
      · rw [hd, ← getD_strL]
        exact h5 (b + i) (by omega) (by omega)
      · rw [hd, ← getD_strL, show b + (k - b) = k by omega]
        exact h4
    rw [e, List.length_drop]
    refine ⟨?_, by omega⟩
    rw [show b + (k - b) = k by omega]
    exact h1
theorem cut_between (t : List Nat) (a b : Nat) (h : a ≤ b) (hb : b ≤ t.length) : cutL t (some (a : Int)) (some (b : Int)) = (t.drop a).take (b - a) := by
  unfold cutL
  rw [HT.sIx_nat, HT.sIx_nat, Nat.min_eq_left (by omega), Nat.min_eq_left (by omega)]
theorem h_quote_at {K : PySem.W.Frag} {W : WX} {gM : V} (hM : ∀ G, DR K G gM (.txt [34])) (ds : List Dat) (d : Dat) (h : R_quote_at ds d) : SemS K W (T_quote_at K gM) (slots 3 ds) (PF d) := by
  obtain ⟨t, a, rfl, ha, hl, rfl⟩ := h
  have hS : sizeLine = 16777216 := rfl
  have hx : atI t (a : Int) = some t[a] := atI_nat (List.getElem?_eq_getElem ha)
  have hdr : t.drop a = t[a] :: t.drop (a + 1) := List.drop_eq_getElem_cons ha
  rw [hdr, quoteS_cons]
  apply ss_seq
  refine ss_if (k := !decide ([t[a]] = [34])) (st_test ?_) (fun hb => ?_) (fun hb => ?_)
  · apply s_op
    · apply s_op
      · walk_at "sem"
      · walk_at "sem"
      · exact os_ixT hx (by omega)
    · exact s_c hM
    · exact os_neT
  · have hc : ¬ t[a] = 34 := by
      intro z
      rw [z] at hb
      simp at hb
    rw [if_neg hc]
    apply ss_ret
    · walk_at "sem"
    · rfl
  · have hc : t[a] = 34 := by simpa using hb
    rw [if_pos hc]
    apply ss_next
    apply ss_seq
    refine ss_asg (d := .int (Txt.find3 (strL t) (strL [34]) ((a + 1 : Nat) : Int))) ?_ ?_
    · apply s_bmT
      · walk_at "sem"
      · refine sa_cons (s_c hM) (sa_cons (a := .int ((a + 1 : Nat) : Int)) ?_ sa_nil)
        walk_at "sem"
      · exact ms_find3
    rcases find_mark t (a + 1) (by omega) with ⟨h1, h2⟩ | ⟨h1, h2⟩
    · rw [h1, if_pos h2]
      apply ss_seq
      refine ss_if (k := true) (st_is (st_or (k := true) (l := true) ?_ (fun z => by cases z)) rfl) (fun _ => ?_) (fun z => by cases z)
      · refine st_is (e := decide ((-1 : Int) < 0)) ?_ (by decide)
        walk_at "test"
      · apply ss_ret
        · walk_at "sem"
        · rfl
    · rw [h1, if_neg (by omega)]
      rw [List.length_drop] at h2
      generalize hq : (untilQ (t.drop (a + 1))).length = q at h2
      have hcut : cutL t (some (a : Int)) (some ((a + 1 + q : Nat) : Int)) = 34 :: untilQ (t.drop (a + 1)) := by
        rw [cut_between t a (a + 1 + q) (by omega) (by omega), hdr, hc, show a + 1 + q - a = q + 1 by omega, List.take_succ_cons, ← hq]
        unfold untilQ
        congr 1
        have : ∀ l : List Nat, l.take (l.takeWhile fun c => decide (c ≠ 34)).length = l.takeWhile fun c => decide (c ≠ 34) := by
          intro l
          induction l with
          | nil => rfl
          | cons c l ih =>
            rw [List.takeWhile_cons]
            split
            · rw [List.length_cons, List.take_succ_cons, ih]
            · rfl
        exact this _
      apply ss_seq
      refine ss_if (k := decide (10 ∈ (34 :: untilQ (t.drop (a + 1))))) (st_is (st_or (k := false) (l := decide (10 ∈ (34 :: untilQ (t.drop (a + 1))))) ?_ (fun _ => ?_)) rfl) (fun hb2 => ?_) (fun hb2 => ?_)
      · refine st_is (e := decide (((a + 1 + q : Nat) : Int) < 0)) ?_ (decide_eq_false (by omega))
        walk_at "test"
      · refine st_test (s_op (a := .txt [10]) (b := .txt (34 :: untilQ (t.drop (a + 1)))) (s_is (d := .txt nl) s_str (by rw [nl1])) ?_ os_inC)
        refine s_is (d := .txt (cutL t (some (a : Int)) (some ((a + 1 + q : Nat) : Int)))) ?_ (by rw [hcut])
        walk_at "sem"
      · have : 10 ∈ untilQ (t.drop (a + 1)) := by
          have := of_decide_eq_true hb2
          rcases List.mem_cons.mp this with z | z
          · cases z
          · exact z
        rw [if_pos this]
        apply ss_ret
        · walk_at "sem"
        · rfl
      · have : ¬ 10 ∈ untilQ (t.drop (a + 1)) := fun z => (of_decide_eq_false hb2) (List.mem_cons_of_mem _ z)
        rw [if_neg this]
        apply ss_next
        refine ss_ret (d := .int ((q + 2 : Nat) : Int)) (s_is (d := .int (((a + 1 + q : Nat) : Int) + 1 - (a : Int))) ?_ ?_) ?_
        · walk_at "sem"
        · congr 1
          omega
        · rfl

/-! ### word_at -/
def pairD (f : List Nat × Nat) : Dat := .tup [.txt f.1, .int (f.2 : Int)]
def R_word_at (ds : List Dat) (d : Dat) : Prop := ∃ t fixed fx, ∃ a : Nat, ds = [.txt t, .int (a : Int), fx] ∧ itemsD fx = some (fixed.map .txt) ∧ a < t.length ∧ t.length ≤ 1000000 ∧ (∀ w ∈ fixed, w.length ≤ 1000) ∧ d = pairD (wordS (t.drop a) fixed)
theorem r_word_at {t : List Nat} {fixed : List (List Nat)} {fx : Dat} {a : Nat} (hfx : itemsD fx = some (fixed.map .txt)) (h : a < t.length) (h2 : t.length ≤ 1000000) (h3 : ∀ w ∈ fixed, w.length ≤ 1000) : R_word_at [.txt t, .int (a : Int), fx] (pairD (wordS (t.drop a) fixed)) := ⟨t, fixed, fx, a, rfl, hfx, h, h2, h3, rfl⟩
theorem starts_eq (t w : List Nat) (a : Nat) (ha : a ≤ t.length) : Txt.startswith3 (strL t) (strL w) (a : Int) = w.isPrefixOf (t.drop a) := by
  have hf : fromIndex (strL t).length (a : Int) = a := by
    unfold fromIndex
    rw [if_neg (by omega)]
    omega
  unfold Txt.startswith3
  rw [hf, strL_len, strL_len]
  have e : Builtin.Str.subAt (strL t) (strL w) a = ((t.drop a).take w.length == w) := by
    unfold Builtin.Str.subAt
    rw [strL_len]
    have e1 : (strL t).cps.extract a (a + w.length) = ((t.drop a).take w.length).toArray := by
      unfold strL
      rw [List.extract_toArray]
      congr 1
      rw [List.extract_eq_take_drop, Nat.add_sub_cancel_left]
    rw [e1]
    show (((t.drop a).take w.length).toArray == w.toArray) = _
    rw [List.beq_toArray]
  rw [e, Bool.eq_iff_iff, Bool.and_eq_true, decide_eq_true_eq, beq_iff_eq, List.isPrefixOf_iff_prefix, List.prefix_iff_eq_take]
  constructor
  · intro h; exact h.2.symm
  · intro h
    refine ⟨?_, h.symm⟩
    have := congrArg List.length h
    rw [List.length_take, List.length_drop] at this
    omega
theorem stepO_ne (f k : List Nat × Nat) (h1 : f.1 ≠ []) (h2 : k.1 ≠ []) : (stepO f k).1 ≠ [] := by
  unfold stepO
  split
  · exact h2
  · exact h1
theorem fold_ne (r : List Nat) : ∀ (fixed : List (List Nat)) (f : List Nat × Nat), f.1 ≠ [] → (fixed.foldl (stepF r) f).1 ≠ []
  | [], f, h => h
  | w :: ws, f, h => by
    refine fold_ne r ws _ ?_
    unfold stepF
    split
    · simp
    · exact h
theorem kinds_ne : kNAME ≠ [] ∧ kNUMBER ≠ [] ∧ kQUOTE ≠ [] := by decide +kernel
theorem open0_ne (r : List Nat) : (open0 r).1 ≠ [] := stepO_ne _ _ (stepO_ne _ _ kinds_ne.1 kinds_ne.2.1) kinds_ne.2.2
theorem fold_klen (r : List Nat) : ∀ (fixed : List (List Nat)) (f : List Nat × Nat), f.1.length ≤ 1001 → (∀ w ∈ fixed, w.length ≤ 1000) → (fixed.foldl (stepF r) f).1.length ≤ 1001
  | [], f, h, _ => h
  | w :: ws, f, h, hw => by
    refine fold_klen r ws _ ?_ fun v hv => hw v (List.mem_cons_of_mem _ hv)
    unfold stepF
    split
    · have := hw w List.mem_cons_self
      show (39 :: w).length ≤ 1001
      rw [List.length_cons]; omega
    · exact h
theorem kinds_len : kNAME.length ≤ 10 ∧ kNUMBER.length ≤ 10 ∧ kQUOTE.length ≤ 10 := by decide +kernel
theorem stepO_klen (f k : List Nat × Nat) (h1 : f.1.length ≤ 10) (h2 : k.1.length ≤ 10) : (stepO f k).1.length ≤ 10 := by
  unfold stepO
  split
  · exact h2
  · exact h1
theorem open0_klen (r : List Nat) : (open0 r).1.length ≤ 10 := stepO_klen _ _ (stepO_klen _ _ kinds_len.1 kinds_len.2.1) kinds_len.2.2
local macro_rules | `(tactic| walk_at "fn") => `(tactic| first
  | (apply r_run_of; (· walk_at "side"); (· walk_at "side")) | (apply r_quote_at; (· walk_at "side"); (· walk_at "side")) | (apply r_kind_of; walk_at "side"))
theorem h_word_at {K : PySem.W.Frag} {W : WX} {gL gF : V} (hL : ∀ G, DR K G gL (.txt letters)) (hF : ∀ G, DR K G gF (.txt figs)) (ds : List Dat) (d : Dat) (h : R_word_at ds d) :
    SemS K W (T_word_at K (spD K R_run_of) (spD K R_quote_at) (spD K R_kind_of) gL gF) (slots 7 ds) (PF d) := by
  obtain ⟨t, fixed, fx, a, rfl, hfx, ha, hl, hw, rfl⟩ := h
  have hS : sizeLine = 16777216 := rfl
  have hale : a ≤ t.length := by omega
  apply ss_seq
  refine ss_asg (d := pairD (kNAME, runS (t.drop a) letters)) ?_ ?_
  · walk_at "sem"
  generalize hr : t.drop a = r
  have hrl : r.length = t.length - a := by rw [← hr, List.length_drop]
  have b1 := runS_len r letters
  have b2 := runS_len r figs
  have b3 := quoteS_len r
  apply ss_seq
  refine ss_for (ds := [pairD (kNUMBER, runS r figs), pairD (kQUOTE, quoteS r)])
    ?_ (fun i ρ => ∃ s4 s5, ρ = [.dat (.txt t), .dat (.int (a : Int)), .dat fx, .dat (pairD (match i with | 0 => (kNAME, runS r letters) | 1 => stepO (kNAME, runS r letters) (kNUMBER, runS r figs) | _ => open0 r)), s4, s5, .no]) ⟨_, _, rfl⟩ ?_ ?_
  · refine si_u (d := .tup [pairD (kNUMBER, runS r figs), pairD (kQUOTE, quoteS r)]) ?_ rfl
    rw [← hr]
    walk_at "sem"
  · have body : ∀ (f k : List Nat × Nat) (s4 s5 : Sl) (P : Post), P.nx [.dat (.txt t), .dat (.int (a : Int)), .dat fx, .dat (pairD (stepO f k)), .dat (.txt k.1), .dat (.int (k.2 : Int)), .no] →
        SemS K W (tIfS (tTest (tOp uGt (tVar 5) (tOp (rIx K) (tVar 3) (tC (.int 1))))) (tAsg (tTup (tCons (tVar 4) (tCons (tVar 5) tNil))) (gName 3)) tNext)
          [.dat (.txt t), .dat (.int (a : Int)), .dat fx, .dat (pairD f), .dat (.txt k.1), .dat (.int (k.2 : Int)), .no] P := by
      intro f k s4 s5 P hp
      apply ss_if
      · walk_at "test"
      · intro hb
        have hb : (f.2 : Int) < (k.2 : Int) := of_decide_eq_true hb
        refine ss_asg (d := pairD k) ?_ ?_
        · walk_at "sem"
        · have e : stepO f k = k := by unfold stepO; rw [if_pos (decide_eq_true (by omega))]
          rw [e] at hp
          exact hp
      · intro hb
        have hb : ¬ (f.2 : Int) < (k.2 : Int) := of_decide_eq_false hb
        apply ss_next
        have e : stepO f k = f := by unfold stepO; rw [if_neg (by intro z; have := of_decide_eq_true z; omega)]
        rw [e] at hp
        exact hp
    rintro i d ρ1 hd ⟨s4, s5, rfl⟩
    match i, hd with
    | 0, hd =>
      cases hd
      refine ⟨_, sg_tup (sgs_cons sg_name (sgs_cons sg_name sgs_nil)) rfl, body (kNAME, runS r letters) (kNUMBER, runS r figs) s4 s5 _ ⟨_, _, rfl⟩⟩
    | 1, hd =>
      cases hd
      refine ⟨_, sg_tup (sgs_cons sg_name (sgs_cons sg_name sgs_nil)) rfl, body (stepO (kNAME, runS r letters) (kNUMBER, runS r figs)) (kQUOTE, quoteS r) s4 s5 _ ⟨_, _, rfl⟩⟩
    | n + 2, hd => cases hd
  · rintro ρ1 ⟨s4, s5, rfl⟩
    apply ss_seq
    refine ss_for (ds := fixed.map .txt) ?_ (fun i ρ => ∃ s4 s5 s6, ρ = [.dat (.txt t), .dat (.int (a : Int)), .dat fx, .dat (pairD ((fixed.take i).foldl (stepF r) (open0 r))), s4, s5, s6]) ⟨_, _, _, rfl⟩ ?_ ?_
    · exact si_u (s_var rfl) hfx
    · rintro i d ρ1 hd ⟨s4, s5, s6, rfl⟩
      rw [List.getElem?_map] at hd
      cases hz : fixed[i]? with
      | none => rw [hz] at hd; cases hd
      | some w =>
        rw [hz] at hd
        cases hd
        have hwl := hw w (List.mem_of_getElem? hz)
        have et : fixed.take (i + 1) = fixed.take i ++ [w] := by rw [List.take_add_one, hz]; rfl
        rw [et, List.foldl_append]
        have hne : ((fixed.take i).foldl (stepF r) (open0 r)).1 ≠ [] := fold_ne r _ _ (open0_ne r)
        have hkl : ((fixed.take i).foldl (stepF r) (open0 r)).1.length ≤ 1001 := fold_klen r _ _ (by have := open0_klen r; omega) fun v hv => hw v (List.mem_of_mem_take hv)
        generalize (fixed.take i).foldl (stepF r) (open0 r) = f at hne hkl
        refine ⟨_, sg_name, ?_⟩
        have hx0 : atI f.1 0 = some (f.1.getD 0 0) := atI_getD 0 (by decide) (by have := List.length_pos_iff.mpr hne; omega)
        have hst : Txt.startswith3 (strL t) (strL w) (a : Int) = w.isPrefixOf r := by rw [← hr]; exact starts_eq t w a hale
        refine ss_if (k := w.isPrefixOf r && (decide ((f.2 : Int) < (w.length : Int)) || (decide ((w.length : Int) = (f.2 : Int)) && !decide ([f.1.getD 0 0] = quo)))) ?_ (fun hb => ?_) (fun hb => ?_)
        · refine st_and (st_bl ?_) (fun _ => st_or ?_ (fun _ => st_and ?_ (fun _ => st_test ?_)))
          · rw [← hst]
            walk_at "sem"
          · walk_at "test"
          · walk_at "test"
          · refine s_op (a := .txt [f.1.getD 0 0]) (b := .txt quo) ?_ s_str os_neT
            refine s_op (a := .txt f.1) (b := .int 0) ?_ s_int (os_ixT hx0 ?_)
            · walk_at "sem"
            · omega
        · refine ss_asg (d := pairD (39 :: w, w.length)) ?_ ?_
          · walk_at "sem"
          · have e : stepF r f w = (39 :: w, w.length) := by
              unfold stepF
              rw [if_pos]
              rw [← hb, quo1]
              simp only [List.cons.injEq, and_true, Int.ofNat_lt, Int.ofNat_inj]
            show ∃ _ _ _, _ = _
            rw [List.foldl_cons, List.foldl_nil, e]
            exact ⟨_, _, _, rfl⟩
        · apply ss_next
          have e : stepF r f w = f := by
            unfold stepF
            rw [if_neg]
            intro z
            rw [quo1] at hb
            simp only [List.cons.injEq, and_true, Int.ofNat_lt, Int.ofNat_inj] at hb
            rw [hb] at z
            cases z
          show ∃ _ _ _, _ = _
          rw [List.foldl_cons, List.foldl_nil, e]
          exact ⟨_, _, _, rfl⟩
    · rintro ρ1 ⟨s4, s5, s6, rfl⟩
      rw [List.length_map, List.take_length]
      apply ss_ret
      · walk_at "sem"
      · rfl

/-! ### cut -/
def wDat (w : Wd) : Dat := .tup [.txt w.1, .txt w.2.1, .int (w.2.2 : Int)]
def outCut (C : Addr) : Except Nat (List Wd) → Out
  | .ok ws => .new (ws.map wDat)
  | .error p => .exc C [("place", .int (p : Int))]
def R_cut (C : Addr) (ds : List Dat) (o : Out) : Prop := ∃ t fixed fx, ds = [.txt t, fx] ∧ itemsD fx = some (fixed.map .txt) ∧ t.length ≤ 100000 ∧ (∀ w ∈ fixed, w.length ≤ 1000) ∧ o = outCut C (cutR fixed 0 t)
def okNW (ws : List V) : Prop := ∃ i : Int, ws = [.int i] ∧ i.natAbs.log2 < 1920
abbrev spNW (K : PySem.W.Frag) (C : Addr) : Sp := spIni K C okNW fun ws => [("place", ws.headD .non)]
def ahead (acc : List Wd) : Except Nat (List Wd) → Except Nat (List Wd)
  | .ok l => .ok (acc ++ l)
  | .error e => .error e
theorem ahead_map (acc : List Wd) (w : Wd) (e : Except Nat (List Wd)) : ahead acc (e.map fun l => w :: l) = ahead (acc ++ [w]) e := by
  cases e with
  | error e => rfl
  | ok l =>
    show Except.ok (acc ++ w :: l) = Except.ok (acc ++ [w] ++ l)
    rw [List.append_assoc]
    rfl
theorem log2_small {n : Int} (h0 : 0 ≤ n) (h : n ≤ 1000000) : n.natAbs.log2 < 1920 := by
  have h1 : n.natAbs ≤ 1000000 := by omega
  have h2 : n.natAbs.log2 ≤ Nat.log2 1000000 := by
    by_cases hz : n.natAbs = 0
    · rw [hz]; decide
    · rw [Nat.le_log2 (by decide)]
      exact Nat.le_trans (Nat.log2_self_le hz) h1
  have h3 : Nat.log2 1000000 = 19 := by decide +kernel
  omega
local macro_rules | `(tactic| walk_at "fn") => `(tactic| (apply r_word_at; (· walk_at "side"); (· walk_at "side"); (· walk_at "side"); (· walk_at "side")))
theorem h_cut {K : PySem.W.Frag} {gB : V} {C : Addr} (hB : ∀ G, DR K G gB (.txt blanks)) (W : WX) (ds : List Dat) (o : Out) (h : R_cut C ds o) :
    SemS K W (T_cut K (spD K R_word_at) gB C (spNW K C) W) (slots 6 ds) (PO o) := by
  obtain ⟨t, fixed, fx, rfl, hfx, hl, hw, ho⟩ := h
  have hS : sizeLine = 16777216 := rfl
  have hl6 : t.length ≤ 1000000 := by omega
  apply ss_seq
  refine ss_asgN (ds := []) (sn_lst sa_nil) ?_
  apply ss_seq
  apply ss_asg
  · walk_at "sem"
  apply ss_seq
  refine ss_while (fun m ρ => ∃ (a : Nat) (acc : List Wd) (s4 s5 : Sl), ρ = [.dat (.txt t), .dat fx, .own (acc.map wDat), .dat (.int (a : Int)), s4, s5] ∧ a ≤ t.length ∧ m = t.length - a ∧ acc.length ≤ a ∧ cutR fixed 0 t = ahead acc (cutR fixed a (t.drop a))) t.length
    ⟨0, [], _, _, rfl, Nat.zero_le _, rfl, Nat.le_refl _, by rw [List.drop_zero]; cases cutR fixed 0 t <;> rfl⟩ ?_
  rintro m ρ1 ⟨a, acc, s4, s5, rfl, ha, rfl, hal, hc⟩
  refine ⟨decide ((a : Int) < (t.length : Int)), ?_, fun hb => ?_, fun hb => ?_⟩
  · walk_at "test"
  · have hlt : a < t.length := by have := of_decide_eq_true hb; omega
    have hx : atI t (a : Int) = some t[a] := atI_nat (List.getElem?_eq_getElem hlt)
    have hdr : t.drop a = t[a] :: t.drop (a + 1) := List.drop_eq_getElem_cons hlt
    apply ss_seq
    refine ss_if (k := decide (t[a] ∈ blanks)) (st_test (s_op (a := .txt [t[a]]) (b := .txt blanks) (s_op (a := .txt t) (b := .int (a : Int)) ?_ ?_ (os_ixT hx (by omega))) (s_c hB) os_inC)) (fun hb1 => ?_) (fun hb1 => ?_)
    · walk_at "sem"
    · walk_at "sem"
    · have hb1 := of_decide_eq_true hb1
      apply ss_seq
      refine ss_plus (a := (a : Int)) (b := 1) rfl s_int ?_
      apply ss_cont
      refine ⟨t.length - (a + 1), by omega, a + 1, acc, s4, s5, rfl, by omega, rfl, by omega, ?_⟩
      rw [hc, hdr, cutR_blank hb1]
    · have hb1 : t[a] ∉ blanks := of_decide_eq_false hb1
      have hwl := wordS_len (t.drop a) fixed
      rw [List.length_drop] at hwl
      have hcw : (wordS (t.drop a) fixed).2 ≠ 0 → cutR fixed a (t.drop a) = (cutR fixed (a + (wordS (t.drop a) fixed).2) ((t.drop a).drop (wordS (t.drop a) fixed).2)).map fun l => ((wordS (t.drop a) fixed).1, (t.drop a).take (wordS (t.drop a) fixed).2, a) :: l := by
        rw [hdr]
        exact fun z => cutR_word hb1 z
      have hcn : (wordS (t.drop a) fixed).2 = 0 → cutR fixed a (t.drop a) = .error a := by
        rw [hdr]
        exact fun z => cutR_none hb1 z
      apply ss_next
      apply ss_seq
      refine ss_asgG (d := pairD (wordS (t.drop a) fixed)) ?_ (sg_tup (sgs_cons sg_name (sgs_cons sg_name sgs_nil)) rfl) ?_
      · walk_at "sem"
      generalize wordS (t.drop a) fixed = f at hwl hcw hcn
      apply ss_seq
      apply ss_if
      · walk_at "test"
      · intro hb2
        have hb2 : f.2 = 0 := by have := of_decide_eq_true hb2; omega
        have hex : o = .exc C [("place", .int (a : Int))] := by rw [ho, hc, hcn hb2]; rfl
        rw [hex]
        refine sr_ini (ds := [.int (a : Int)]) (sa_cons (s_var rfl) sa_nil) (by show 1 ≤ 900; decide) (fun G vs r => ?_) (fun G vs r => ?_) ⟨rfl, rfl⟩
        · cases r with
          | cons h1 r => cases r; cases h1; exact ⟨_, rfl, log2_small (by omega) (by omega)⟩
        · cases r with
          | cons h1 r => cases r; cases h1; exact .cons (.int _) .nil
      · intro hb2
        have hb2 : f.2 ≠ 0 := by have := of_decide_eq_false hb2; omega
        apply ss_next
        apply ss_seq
        have hcut : cutL t (some (a : Int)) (some ((a + f.2 : Nat) : Int)) = (t.drop a).take f.2 := by
          rw [cut_between t a (a + f.2) (by omega) (by omega), Nat.add_sub_cancel_left]
        refine ss_app (ds := acc.map wDat) (d := wDat (f.1, (t.drop a).take f.2, a)) rfl ?_ (by rw [List.length_map]; omega) ?_
        · refine s_tup (ds := [.txt f.1, .txt ((t.drop a).take f.2), .int (a : Int)]) (sa_cons (s_var rfl) (sa_cons ?_ (sa_cons (s_var rfl) sa_nil))) (by show 3 ≤ sizeLine; decide)
          rw [← hcut]
          walk_at "sem"
        · refine ss_plus (a := (a : Int)) (b := (f.2 : Int)) rfl (s_var rfl) ?_
          refine ⟨t.length - (a + f.2), by omega, a + f.2, acc ++ [(f.1, (t.drop a).take f.2, a)], .dat (.txt f.1), .dat (.int (f.2 : Int)), ?_, by omega, rfl, ?_, ?_⟩
          · rw [List.map_append]
            rfl
          · rw [List.length_append]
            show acc.length + 1 ≤ a + f.2
            omega
          · rw [hc, hcw hb2, ahead_map, List.drop_drop]
  · have hge : a = t.length := by have := of_decide_eq_false hb; omega
    subst hge
    rw [List.drop_length, cutR_nil] at hc
    have hv : o = .new (acc.map wDat) := by
      rw [ho, hc]
      show outCut C (.ok (acc ++ [])) = _
      rw [List.append_nil]
      rfl
    rw [hv]
    exact ss_retOwn rfl rfl

/-! ### the law's pieces -/
def some16 : List (List Nat) := [(Str.ofString " ").cps.toList, (Str.ofString "  ").cps.toList, (Str.ofString "\t").cps.toList, (Str.ofString "\n").cps.toList, (Str.ofString "12").cps.toList, (Str.ofString "0").cps.toList,
  (Str.ofString "abc").cps.toList, (Str.ofString "iffy").cps.toList, (Str.ofString "a").cps.toList, (Str.ofString "\"q r\"").cps.toList, (Str.ofString "\"\"").cps.toList, (Str.ofString "7a").cps.toList, (Str.ofString "x9").cps.toList,
  (Str.ofString "<=").cps.toList, (Str.ofString "<").cps.toList, (Str.ofString "(").cps.toList]
def odd6 : List (List Nat) := [(Str.ofString "\"").cps.toList, (Str.ofString "_").cps.toList, (Str.ofString "A").cps.toList, (Str.ofString "\"a\nb\"").cps.toList, (Str.ofString "'").cps.toList, (Str.ofString "\\").cps.toList]
def Okc (t : List Nat) : Prop := ∀ c ∈ t, c < 1114112
theorem some16_ok : ∀ t ∈ some16, t.length ≤ 8 ∧ ∀ c ∈ t, c < 1114112 := by decide +kernel
theorem odd6_ok : ∀ t ∈ odd6, t.length ≤ 8 ∧ ∀ c ∈ t, c < 1114112 := by decide +kernel
def pieceF (fixed : List (List Nat)) (c : Int) : List Nat :=
  if (decide (c % 3 = 0) && !fixed.isEmpty) then fixed.getD (c / 3 % (fixed.length : Int)).toNat [] else if decide (c % 41 = 1) then odd6.getD (c / 41 % 6).toNat [] else some16.getD (c / 3 % 16).toNat []
/-- fixed words as the law draws them -/
structure Fxl (fixed : List (List Nat)) : Prop where
  len : ∀ w ∈ fixed, w.length ≤ 8
  ok : ∀ w ∈ fixed, ∀ c ∈ w, c < 1114112
  few : fixed.length ≤ 100
theorem pieceF_ok {fixed : List (List Nat)} (F : Fxl fixed) (c : Int) : (pieceF fixed c).length ≤ 8 ∧ ∀ x ∈ pieceF fixed c, x < 1114112 := by
  have h0 : ([] : List Nat).length ≤ 8 ∧ ∀ x ∈ ([] : List Nat), x < 1114112 := ⟨by decide, fun x h => by cases h⟩
  unfold pieceF
  split
  · exact getD_mem_or (fun t : List Nat => t.length ≤ 8 ∧ ∀ x ∈ t, x < 1114112) [] h0 fixed _ fun t ht => ⟨F.len t ht, F.ok t ht⟩
  · split
    · exact getD_mem_or (fun t : List Nat => t.length ≤ 8 ∧ ∀ x ∈ t, x < 1114112) [] h0 odd6 _ odd6_ok
    · exact getD_mem_or (fun t : List Nat => t.length ≤ 8 ∧ ∀ x ∈ t, x < 1114112) [] h0 some16 _ some16_ok
def R__law_piece (ds : List Dat) (d : Dat) : Prop := ∃ c fixed, ds = [.int c, .lst (fixed.map .txt)] ∧ Fxl fixed ∧ d = .txt (pieceF fixed c)
theorem r__law_piece {c : Int} {fixed : List (List Nat)} (F : Fxl fixed) : R__law_piece [.int c, .lst (fixed.map .txt)] (.txt (pieceF fixed c)) := ⟨c, fixed, rfl, F, rfl⟩
theorem toPys_txts : ∀ ts : List (List Nat), toPys (ts.map .txt) = ts.map fun t => .str (strL t)
  | [] => rfl
  | t :: r => by
    show toPy (.txt t) :: toPys (r.map .txt) = _
    rw [toPys_txts r]
    rfl
theorem strOk_of {t : List Nat} (h : ∀ c ∈ t, c < 1114112) : PyData.strOk (strL t) = true := by
  unfold PyData.strOk strL
  rw [List.all_toArray, List.all_eq_true]
  intro c hc
  exact decide_eq_true (h c hc)
theorem lay_txts : ∀ ts : List (List Nat), (∀ t ∈ ts, ∀ c ∈ t, c < 1114112) → PyData.canLayAll0 (ts.map fun t => .str (strL t)) = true
  | [], _ => rfl
  | t :: r, h => by
    show (PyData.canLay0 (.str (strL t)) && PyData.canLayAll0 (r.map fun t => .str (strL t))) = true
    rw [lay_txts r fun u hu => h u (List.mem_cons_of_mem _ hu)]
    show (PyData.strOk (strL t) && true) = true
    rw [strOk_of (h t List.mem_cons_self)]
    rfl
theorem depth_txts : ∀ ts : List (List Nat), PyData.depthAll (ts.map fun t => .str (strL t)) = 0
  | [] => rfl
  | t :: r => by
    show max (PyData.depth (.str (strL t))) (PyData.depthAll (r.map fun t => .str (strL t))) = 0
    rw [depth_txts r]; rfl
theorem shaped_txts {ts : List (List Nat)} (h : ∀ t ∈ ts, ∀ c ∈ t, c < 1114112) : SeqAt.shaped (toPy (.lst (ts.map .txt))) = true := by
  show SeqAt.shaped (.list (toPys (ts.map .txt))) = true
  rw [toPys_txts]
  unfold SeqAt.shaped
  rw [Bool.and_eq_true]
  refine ⟨lay_txts ts h, decide_eq_true ?_⟩
  show PyData.depthAll (ts.map fun t => .str (strL t)) + 1 ≤ 64
  rw [depth_txts]; decide
theorem plain_txts : ∀ ts : List (List Nat), plainDs (ts.map .txt) = true
  | [] => rfl
  | t :: r => by
    show (plainD (.txt t) && plainDs (r.map .txt)) = true
    rw [plain_txts r]; rfl
theorem os_neTxts0 {K : PySem.W.Frag} {ts : List (List Nat)} (h : ∀ t ∈ ts, ∀ c ∈ t, c < 1114112) : OpS K (uNe K) (.lst (ts.map .txt)) (.lst []) (.bl (!ts.isEmpty)) := by
  have z := os_neD (K := K) (a := .lst (ts.map .txt)) (b := .lst []) (plain_txts ts) rfl (shaped_txts h) (by decide +kernel)
  have e : PyData.eqv (toPy (.lst (ts.map .txt))) (toPy (.lst [])) = ts.isEmpty := by
    show PyData.eqv (.list (toPys (ts.map .txt))) (.list []) = _
    rw [toPys_txts]
    cases ts <;> rfl
  rw [e] at z
  exact z
theorem h__law_piece {K : PySem.W.Frag} {W : WX} (ds : List Dat) (d : Dat) (h : R__law_piece ds d) : SemS K W (T__law_piece K) (slots 3 ds) (PF d) := by
  obtain ⟨c, fixed, rfl, F, rfl⟩ := h
  have few := F.few
  apply ss_seq
  refine ss_asg (d := .lst (some16.map .txt)) ?_ ?_
  · walk_at "sem"
  apply ss_seq
  refine ss_if (k := decide (c % 3 = 0) && !fixed.isEmpty) ?_ (fun hb => ?_) (fun hb => ?_)
  · refine st_and ?_ (fun _ => st_test (s_op (a := .lst (fixed.map .txt)) (b := .lst []) ?_ ?_ (os_neTxts0 F.ok)))
    · walk_at "test"
    · walk_at "sem"
    · walk_at "sem"
  · have hp : 0 < fixed.length := by
      cases fixed with
      | nil => simp at hb
      | cons a r => exact Nat.succ_pos _
    have hx : atI (fixed.map Dat.txt) (c / 3 % (fixed.length : Int)) = some (.txt (fixed.getD (c / 3 % (fixed.length : Int)).toNat [])) := atI_mapD _ [] (Int.emod_nonneg _ (by omega)) (Int.emod_lt_of_pos _ (by omega))
    refine ss_ret (d := .txt (pieceF fixed c)) ?_ rfl
    unfold pieceF
    rw [if_pos hb]
    refine s_op (a := .lst (fixed.map .txt)) (b := .int (c / 3 % (fixed.length : Int))) ?_ ?_ (os_ixL hx)
    · walk_at "sem"
    · refine s_op (a := .int (c / 3)) (b := .int (fixed.length : Int)) ?_ ?_ (os_mod (by omega))
      · walk_at "sem"
      · refine s_is (d := .int ((fixed.map Dat.txt).length : Int)) ?_ (by rw [List.length_map])
        walk_at "sem"
  · apply ss_next
    apply ss_seq
    apply ss_if
    · walk_at "test"
    · intro hb2
      have hx : atI (odd6.map Dat.txt) (c / 41 % 6) = some (.txt (odd6.getD (c / 41 % 6).toNat [])) := atI_mapD _ [] (by omega) (by show _ < (6 : Int); omega)
      refine ss_ret (d := .txt (pieceF fixed c)) ?_ rfl
      unfold pieceF
      rw [if_neg (by rw [hb]; simp), if_pos hb2]
      refine s_op (a := .lst (odd6.map .txt)) (b := .int (c / 41 % 6)) ?_ ?_ (os_ixL hx)
      · walk_at "sem"
      · walk_at "sem"
    · intro hb2
      have hx : atI (some16.map Dat.txt) (c / 3 % 16) = some (.txt (some16.getD (c / 3 % 16).toNat [])) := atI_mapD _ [] (by omega) (by show _ < (16 : Int); omega)
      apply ss_next
      refine ss_ret (d := .txt (pieceF fixed c)) ?_ rfl
      unfold pieceF
      rw [if_neg (by rw [hb]; simp), if_neg (by rw [hb2]; simp)]
      refine s_op (a := .lst (some16.map .txt)) (b := .int (c / 3 % 16)) ?_ ?_ (os_ixL hx)
      · walk_at "sem"
      · walk_at "sem"
/-! fixed words that are drawn -/
theorem joinL_emp {α : Type} (f : α → List Nat) : ∀ xs : List α, joinL emp (xs.map f) = (xs.map f).flatten
  | [] => rfl
  | [x] => by show f x = [f x].flatten; simp
  | x :: y :: r => by
    have ih := joinL_emp f (y :: r)
    show f x ++ emp ++ joinL emp ((y :: r).map f) = _
    rw [ih, emp_nil, List.append_nil, List.map_cons, List.map_cons, List.flatten_cons]
    rfl
theorem letters_good : ∀ c ∈ letters, (c ≠ 34 ∧ c ∉ blanks) ∧ c < 1114112 := by decide +kernel
theorem signs_good : ∀ c ∈ signs, (c ≠ 34 ∧ c ∉ blanks) ∧ c < 1114112 := by decide +kernel
theorem usual_good : ∀ t ∈ usual, t ≠ [] ∧ ∀ c ∈ t, (c ≠ 34 ∧ c ∉ blanks) ∧ c < 1114112 := by decide +kernel
theorem getD_in {xs : List Nat} {i : Nat} (h : i < xs.length) : xs.getD i 0 ∈ xs := by
  rw [List.getD_eq_getElem?_getD, List.getElem?_eq_getElem h]
  exact List.getElem_mem h
theorem getD_inL {xs : List (List Nat)} {i : Nat} (h : i < xs.length) : xs.getD i [] ∈ xs := by
  rw [List.getD_eq_getElem?_getD, List.getElem?_eq_getElem h]
  exact List.getElem_mem h
theorem drawn_good (s : List Nat) (Pc : Nat → Prop) (hs : ∀ c ∈ s, Pc c) (hl : s.length = 26) (n : Nat) (hn : 0 < n) (ix : Nat → Int) : 
    (joinL emp ((List.range n).map fun k : Nat => [s.getD (ix k % 26).toNat 0])) ≠ [] ∧ ∀ c ∈ joinL emp ((List.range n).map fun k : Nat => [s.getD (ix k % 26).toNat 0]), Pc c := by
  rw [joinL_emp]
  constructor
  · intro z
    rw [List.flatten_eq_nil_iff] at z
    have := z [s.getD (ix 0 % 26).toNat 0] (List.mem_map.mpr ⟨0, List.mem_range.mpr hn, rfl⟩)
    cases this
  · intro c hc
    obtain ⟨l, hl2, hcl⟩ := List.mem_flatten.mp hc
    obtain ⟨k, _, rfl⟩ := List.mem_map.mp hl2
    have : c = s.getD (ix k % 26).toNat 0 := by simpa using hcl
    rw [this]
    exact hs _ (getD_in (by omega))
theorem fixedBy_good (c : Int) : fixedBy c ≠ [] ∧ ∀ x ∈ fixedBy c, (x ≠ 34 ∧ x ∉ blanks) ∧ x < 1114112 := by
  unfold fixedBy
  split
  · exact usual_good _ (getD_inL (by rw [usual_len]; omega))
  · split
    · exact drawn_good letters (fun x => (x ≠ 34 ∧ x ∉ blanks) ∧ x < 1114112) letters_good letters_len _ (by omega) _
    · exact drawn_good signs (fun x => (x ≠ 34 ∧ x ∉ blanks) ∧ x < 1114112) signs_good signs_len _ (by omega) _

theorem cov_sum : ∀ {ws : List Wd} {a : Nat} {r : List Nat}, Cov a r ws → ((ws.map (·.2.1)).map (·.length)).sum ≤ r.length ∧ ws.length ≤ r.length
  | [], _, _, _ => ⟨Nat.zero_le _, Nat.zero_le _⟩
  | (_, t, p) :: ws, a, r, ⟨h1, h2, h3, h4, h5, h6⟩ => by
    obtain ⟨i1, i2⟩ := cov_sum h6
    rw [List.length_drop] at i1 i2
    have ht : 0 < t.length := List.length_pos_iff.mpr h3
    rw [List.map_cons, List.map_cons, List.sum_cons, List.length_cons]
    show t.length + _ ≤ _ ∧ _
    constructor
    · omega
    · omega
/-! signs that are told -/
theorem kinds_ok : Okc kNAME ∧ Okc kNUMBER ∧ Okc kQUOTE := by
  have h : (∀ c ∈ kNAME, c < 1114112) ∧ (∀ c ∈ kNUMBER, c < 1114112) ∧ (∀ c ∈ kQUOTE, c < 1114112) := by decide +kernel
  exact h
theorem stepO_okc (f k : List Nat × Nat) (h1 : Okc f.1) (h2 : Okc k.1) : Okc (stepO f k).1 := by
  unfold stepO
  split
  · exact h2
  · exact h1
theorem fold_okc (r : List Nat) : ∀ (fixed : List (List Nat)) (f : List Nat × Nat), Okc f.1 → (∀ w ∈ fixed, Okc w) → Okc (fixed.foldl (stepF r) f).1
  | [], f, h, _ => h
  | w :: ws, f, h, hw => by
    refine fold_okc r ws _ ?_ fun v hv => hw v (List.mem_cons_of_mem _ hv)
    unfold stepF
    split
    · intro c hc
      rcases List.mem_cons.mp hc with rfl | hc
      · decide
      · exact hw w List.mem_cons_self c hc
    · exact h
theorem cut_okc {fixed : List (List Nat)} (hf : ∀ w ∈ fixed, Okc w) : ∀ (n : Nat) (r : List Nat) (a : Nat) (ws : List Wd), r.length ≤ n → Okc r → cutR fixed a r = .ok ws → ∀ w ∈ ws, Okc w.1 ∧ Okc w.2.1
  | _, [], a, ws, _, _, h => by
    rw [cutR_nil] at h
    cases h
    intro w hw
    cases hw
  | 0, c :: x, a, ws, hn, _, _ => by simp at hn
  | n + 1, c :: x, a, ws, hn, ho, h => by
    rw [List.length_cons] at hn
    by_cases hc : c ∈ blanks
    · rw [cutR_blank hc] at h
      exact cut_okc hf n x (a + 1) ws (by omega) (fun d hd => ho d (List.mem_cons_of_mem _ hd)) h
    · by_cases hw : (wordS (c :: x) fixed).2 = 0
      · rw [cutR_none hc hw] at h
        cases h
      · rw [cutR_word hc hw] at h
        cases hz : cutR fixed (a + (wordS (c :: x) fixed).2) ((c :: x).drop (wordS (c :: x) fixed).2) with
        | error e => rw [hz] at h; cases h
        | ok l =>
          rw [hz] at h
          have el : ((wordS (c :: x) fixed).1, (c :: x).take (wordS (c :: x) fixed).2, a) :: l = ws := by cases h; rfl
          subst el
          intro w hm
          rcases List.mem_cons.mp hm with rfl | hm
          · exact ⟨fold_okc _ _ _ (stepO_okc _ _ (stepO_okc _ _ kinds_ok.1 kinds_ok.2.1) kinds_ok.2.2) hf, fun d hd => ho d (List.mem_of_mem_take hd)⟩
          · exact cut_okc hf n _ _ l (by rw [List.length_drop, List.length_cons]; omega) (fun d hd => ho d (List.mem_of_mem_drop hd)) hz w hm

/-! ### the law's own look at words -/
def R__law_run (ds : List Dat) (d : Dat) : Prop := ∃ t s, ∃ a : Nat, ds = [.txt t, .int (a : Int), .txt s] ∧ a ≤ t.length ∧ t.length ≤ 1000000 ∧ d = .int ((runS (t.drop a) s : Nat) : Int)
theorem r__law_run {t s : List Nat} {a : Nat} (h : a ≤ t.length) (h2 : t.length ≤ 1000000) : R__law_run [.txt t, .int (a : Int), .txt s] (.int ((runS (t.drop a) s : Nat) : Int)) := ⟨t, s, a, rfl, h, h2, rfl⟩
theorem h__law_run {K : PySem.W.Frag} {W : WX} (ds : List Dat) (d : Dat) (h : R__law_run ds d) : SemS K W (T__law_run K) (slots 4 ds) (PF d) := by
  obtain ⟨t, s, a, rfl, ha, hl, rfl⟩ := h
  have hS : sizeLine = 16777216 := rfl
  have hrl : runS (t.drop a) s ≤ t.length - a := by have := runS_len (t.drop a) s; rwa [List.length_drop] at this
  apply ss_seq
  apply ss_asg
  · walk_at "sem"
  apply ss_seq
  refine ss_while (fun m ρ => ∃ j : Nat, ρ = [.dat (.txt t), .dat (.int (a : Int)), .dat (.txt s), .dat (.int ((a + j : Nat) : Int))] ∧ j ≤ runS (t.drop a) s ∧ m = runS (t.drop a) s - j) (runS (t.drop a) s) ⟨0, rfl, Nat.zero_le _, rfl⟩ ?_
  rintro m ρ1 ⟨j, rfl, hj, rfl⟩
  have hm := run_more s (t.drop a) j hj
  rw [List.getElem?_drop] at hm
  refine ⟨decide (j < runS (t.drop a) s), ?_, ?_, ?_⟩
  · by_cases hlt : a + j < t.length
    · have hx : atI t ((a + j : Nat) : Int) = some t[a + j] := atI_nat (List.getElem?_eq_getElem hlt)
      refine st_is (st_and (k := decide (((a + j : Nat) : Int) < (t.length : Int))) (l := decide (t[a + j] ∈ s)) ?_ (fun _ => ?_)) ?_
      · walk_at "test"
      · apply st_test
        apply s_op
        · apply s_op
          · walk_at "sem"
          · walk_at "sem"
          · exact os_ixT hx (by omega)
        · walk_at "sem"
        · exact os_inC
      · rw [decide_eq_true (by omega : ((a + j : Nat) : Int) < (t.length : Int)), Bool.true_and, Bool.eq_iff_iff, decide_eq_true_eq, decide_eq_true_eq, ← hm, List.getElem?_eq_getElem hlt]
        constructor
        · intro h; exact ⟨_, rfl, h⟩
        · rintro ⟨c, hc, h⟩; cases hc; exact h
    · refine st_is (st_and (k := false) (l := false) ?_ (fun z => by cases z)) ?_
      · refine st_is (e := decide (((a + j : Nat) : Int) < (t.length : Int))) ?_ (decide_eq_false (by omega))
        walk_at "test"
      · symm
        refine decide_eq_false fun z => ?_
        obtain ⟨c, hc, _⟩ := hm.mpr z
        rw [List.getElem?_eq_none (by omega)] at hc
        cases hc
  · intro hk
    have hlt := of_decide_eq_true hk
    refine ss_asg (d := .int (((a + j : Nat) : Int) + 1)) (by walk_at "sem") ?_
    exact ⟨runS (t.drop a) s - (j + 1), by omega, j + 1, rfl, hlt, rfl⟩
  · intro hk
    have hge : ¬ j < runS (t.drop a) s := of_decide_eq_false hk
    refine ss_ret (d := .int ((runS (t.drop a) s : Nat) : Int)) (s_is (d := .int (((a + j : Nat) : Int) - (a : Int))) ?_ ?_) rfl
    · walk_at "sem"
    · have : j = runS (t.drop a) s := by omega
      rw [this]
      congr 1
      omega

def R__law_stands (ds : List Dat) (d : Dat) : Prop := ∃ t fixed, ∃ a : Nat, ds = [.txt t, .int (a : Int), .lst (fixed.map .txt)] ∧ a < t.length ∧ t.length ≤ 1000000 ∧ (∀ w ∈ fixed, w.length ≤ 1000) ∧ fixed.length ≤ 1000 ∧ d = .lst ((standsF (t.drop a) fixed).map sD)
theorem r__law_stands {t : List Nat} {fixed : List (List Nat)} {a : Nat} (h : a < t.length) (h2 : t.length ≤ 1000000) (h3 : ∀ w ∈ fixed, w.length ≤ 1000) (h4 : fixed.length ≤ 1000) : R__law_stands [.txt t, .int (a : Int), .lst (fixed.map .txt)] (.lst ((standsF (t.drop a) fixed).map sD)) := ⟨t, fixed, a, rfl, h, h2, h3, h4, rfl⟩
theorem cut_ahead_is (t w : List Nat) (a : Nat) (h : a ≤ t.length) : decide (cutL t (some (a : Int)) (some ((a + w.length : Nat) : Int)) = w) = w.isPrefixOf (t.drop a) := by
  have e : cutL t (some (a : Int)) (some ((a + w.length : Nat) : Int)) = (t.drop a).take w.length := by
    unfold cutL
    rw [HT.sIx_nat, HT.sIx_nat, Nat.min_eq_left h]
    by_cases h2 : a + w.length ≤ t.length
    · rw [Nat.min_eq_left h2, Nat.add_sub_cancel_left]
    · rw [Nat.min_eq_right (by omega), List.take_of_length_le (by rw [List.length_drop]; omega), List.take_of_length_le (by rw [List.length_drop]; omega)]
  rw [e, Bool.eq_iff_iff, decide_eq_true_eq, List.isPrefixOf_iff_prefix, List.prefix_iff_eq_take]
  exact eq_comm
theorem cut_from (t : List Nat) (p : Nat) (h : p ≤ t.length) : cutL t (some (p : Int)) none = t.drop p := by
  unfold cutL
  rw [HT.sIx_none, HT.sIx_nat, Nat.min_eq_left h, List.take_of_length_le (by rw [List.length_drop]; omega)]
theorem stands_len (r : List Nat) (fixed : List (List Nat)) : (standsF r fixed).length ≤ fixed.length + 3 := by
  unfold standsF
  have h1 := List.length_filter_le (fun w : List Nat => w.isPrefixOf r) fixed
  split
  · simp only [List.length_append, List.length_map, List.length_cons, List.length_nil]; omega
  · simp only [List.length_append, List.length_map, List.length_cons, List.length_nil]; omega
local macro_rules | `(tactic| walk_at "fn") => `(tactic| first
  | (apply r__law_run; (· walk_at "side"); (· walk_at "side")))
theorem h__law_stands {K : PySem.W.Frag} {W : WX} (ds : List Dat) (d : Dat) (h : R__law_stands ds d) : SemS K W (T__law_stands K (spD K R__law_run)) (slots 6 ds) (PF d) := by
  obtain ⟨t, fixed, a, rfl, ha, hl, hw, hf, rfl⟩ := h
  have hS : sizeLine = 16777216 := rfl
  have hale : a ≤ t.length := by omega
  have hq : quo.length = 1 := by rw [quo1]; rfl
  generalize hr : t.drop a = r
  have hrl : r.length = t.length - a := by rw [← hr, List.length_drop]
  have b1 := runS_len r letters
  have b2 := runS_len r figs
  have b3 := quoteS_len r
  have hfl := List.length_filter_le (fun w : List Nat => w.isPrefixOf r) fixed
  apply ss_seq
  refine ss_asgN (ds := ((fixed.filter fun w => w.isPrefixOf r).map fun w => sD (w.length, 1, 39 :: w))) ?_ ?_
  · refine sn_lcF (enc := Dat.txt) (si_u (s_var rfl) rfl) (by omega) (fun w hw' => ?_) (fun w hw' _ => ?_)
    · have hwl := hw w hw'
      rw [← hr, ← cut_ahead_is t w a hale]
      refine st_test (s_op (a := .txt (cutL t (some (a : Int)) (some ((a + w.length : Nat) : Int)))) (b := .txt w) ?_ ?_ os_eqT)
      · refine s_sl (a := .txt t) (lo := some (a : Int)) (hi := some ((a + w.length : Nat) : Int)) (s_var rfl) (so_some (s_var rfl)) (so_some ?_) (ss_txt (by omega))
        refine s_op (a := .int (a : Int)) (b := .int (w.length : Int)) (s_var rfl) ?_ os_addI
        refine s_cb (sa_cons (s_var rfl) sa_nil) (cs_lenT (by omega))
      · exact s_var rfl
    · have hwl := hw w hw'
      refine s_tup (ds := [.int (w.length : Int), .int 1, .txt (39 :: w)]) (sa_cons ?_ (sa_cons s_int (sa_cons ?_ sa_nil))) (by show 3 ≤ sizeLine; decide)
      · refine s_cb (sa_cons (s_var rfl) sa_nil) (cs_lenT (by omega))
      · refine s_is (d := .txt (quo ++ w)) (s_op (a := .txt quo) (b := .txt w) s_str (s_var rfl) (os_addT (by rw [hq]; omega))) (by rw [quo1]; rfl)
  apply ss_seq
  refine ss_app (d := sD (runS r letters, 0, kNAME)) rfl ?_ (by rw [List.length_map]; omega) ?_
  · refine s_tup (ds := [.int (runS r letters : Int), .int 0, .txt kNAME]) (sa_cons ?_ (sa_cons s_int (sa_cons s_str sa_nil))) (by show 3 ≤ sizeLine; decide)
    rw [← hr]
    exact s_call (sa_cons (s_var rfl) (sa_cons (s_var rfl) (sa_cons (a := .txt letters) s_str sa_nil))) (r__law_run hale hl)
  apply ss_seq
  refine ss_app (d := sD (runS r figs, 0, kNUMBER)) rfl ?_ (by rw [List.length_append, List.length_map]; simp only [List.length_cons, List.length_nil]; omega) ?_
  · refine s_tup (ds := [.int (runS r figs : Int), .int 0, .txt kNUMBER]) (sa_cons ?_ (sa_cons s_int (sa_cons s_str sa_nil))) (by show 3 ≤ sizeLine; decide)
    rw [← hr]
    exact s_call (sa_cons (s_var rfl) (sa_cons (s_var rfl) (sa_cons (a := .txt figs) s_str sa_nil))) (r__law_run hale hl)
  have efin : ∀ (s4 s5 : Sl), SemS K W (tRet (tVar 3)) [.dat (.txt t), .dat (.int (a : Int)), .dat (.lst (fixed.map .txt)), .own ((standsF r fixed).map sD), s4, s5] (PF (.lst ((standsF r fixed).map sD))) := fun s4 s5 => by
    refine ss_freeze 3 rfl ?_
    apply ss_ret
    · walk_at "sem"
    · rfl
  have eown : quoteS r = 0 → (((fixed.filter fun w => w.isPrefixOf r).map fun w => sD (w.length, 1, 39 :: w)) ++ [sD (runS r letters, 0, kNAME)]) ++ [sD (runS r figs, 0, kNUMBER)] = (standsF r fixed).map sD := fun z => by
    unfold standsF
    rw [if_pos z, List.append_nil, List.map_append, List.map_append, List.map_map]
    rfl
  have eownq : quoteS r ≠ 0 → ((((fixed.filter fun w => w.isPrefixOf r).map fun w => sD (w.length, 1, 39 :: w)) ++ [sD (runS r letters, 0, kNAME)]) ++ [sD (runS r figs, 0, kNUMBER)]) ++ [sD (quoteS r, 0, kQUOTE)] = (standsF r fixed).map sD := fun z => by
    unfold standsF
    rw [if_neg z, List.map_append, List.map_append, List.map_append, List.map_map]
    rfl
  have hx : atI t (a : Int) = some t[a] := atI_nat (List.getElem?_eq_getElem ha)
  have hdr : r = t[a] :: t.drop (a + 1) := by rw [← hr]; exact List.drop_eq_getElem_cons ha
  apply ss_seq
  refine ss_if (k := decide ([t[a]] = mark)) (st_test (s_op (a := .txt [t[a]]) (b := .txt mark) (s_op (a := .txt t) (b := .int (a : Int)) (s_var rfl) (s_var rfl) (os_ixT hx (by omega))) s_str os_eqT)) (fun hb => ?_) (fun hb => ?_)
  · have hc : t[a] = 34 := by have := of_decide_eq_true hb; rw [mark1] at this; simpa using this
    generalize hx2 : t.drop (a + 1) = x at hdr
    have hxl : x.length = t.length - (a + 1) := by rw [← hx2, List.length_drop]
    have hqS : quoteS r = if (untilQ x).length = x.length then 0 else if 10 ∈ untilQ x then 0 else (untilQ x).length + 2 := by rw [hdr, quoteS_cons, if_pos hc]
    have hul : (untilQ x).length ≤ x.length := takeWhile_len _ x
    obtain ⟨rest, hsp, hrest⟩ := split_mark x
    apply ss_seq
    refine ss_asg (d := .lst (.txt (untilQ x) :: rest.map fun s => .txt s.cps.toList)) ?_ ?_
    · have z := ms_split (K := K) (a := x) (b := [34]) (by simp) (by omega)
      rw [hsp, List.map_cons, strL_cps] at z
      refine s_m1 (cs := x) (d := .txt [34]) ?_ (s_is (d := .txt mark) s_str (by rw [mark1])) z
      rw [← hx2, ← cut_from t (a + 1) (by omega)]
      refine s_sl (a := .txt t) (lo := some ((a + 1 : Nat) : Int)) (hi := none) (s_var rfl) (so_some ?_) so_none (ss_txt (by omega))
      walk_at "sem"
    have hx0 : atI (Dat.txt (untilQ x) :: rest.map fun s => Dat.txt s.cps.toList) 0 = some (.txt (untilQ x)) := atI_nat (j := 0) rfl
    refine ss_if (k := decide (((1 : Nat) : Int) < ((rest.length + 1 : Nat) : Int)) && !decide (10 ∈ untilQ x)) ?_ (fun hb2 => ?_) (fun hb2 => ?_)
    · refine st_and (st_test ?_) (fun _ => st_test ?_)
      · refine s_op (a := .int ((rest.length + 1 : Nat) : Int)) (b := .int 1) (s_is (d := .int (((Dat.txt (untilQ x) :: rest.map fun s => Dat.txt s.cps.toList).length : Nat) : Int)) (s_cb (sa_cons (s_var rfl) sa_nil) cs_lenL) ?_) s_int os_gt
        rw [List.length_cons, List.length_map]
      · refine s_op (a := .txt [10]) (b := .txt (untilQ x)) (s_is (d := .txt nl) s_str (by rw [nl1])) ?_ os_notinC
        exact s_op (a := .lst (.txt (untilQ x) :: rest.map fun s => .txt s.cps.toList)) (b := .int 0) (s_var rfl) s_int (os_ixL hx0)
    · rw [Bool.and_eq_true, Bool.not_eq_true', decide_eq_true_eq, decide_eq_false_iff_not] at hb2
      have hne : rest ≠ [] := fun z => by rw [z] at hb2; simp at hb2
      have hq0 : quoteS r = (untilQ x).length + 2 := by rw [hqS, if_neg (fun z => hne (hrest.mpr z)), if_neg hb2.2]
      refine ss_app (d := sD (quoteS r, 0, kQUOTE)) rfl ?_ (by rw [List.length_append, List.length_append, List.length_map]; simp only [List.length_cons, List.length_nil]; omega) ?_
      · rw [hq0]
        refine s_tup (ds := [.int (((untilQ x).length + 2 : Nat) : Int), .int 0, .txt kQUOTE]) (sa_cons ?_ (sa_cons s_int (sa_cons s_str sa_nil))) (by show 3 ≤ sizeLine; decide)
        refine s_op (a := .int ((untilQ x).length : Int)) (b := .int 2) (s_cb (sa_cons (a := .txt (untilQ x)) ?_ sa_nil) (cs_lenT (by omega))) s_int os_addI
        exact s_op (a := .lst (.txt (untilQ x) :: rest.map fun s => .txt s.cps.toList)) (b := .int 0) (s_var rfl) s_int (os_ixL hx0)
      · show SemS K W (tRet (tVar 3)) [_, _, _, Sl.own (_ ++ _), _, _] _
        rw [eownq (by omega)]
        exact efin _ _
    · have hq0 : quoteS r = 0 := by
        rw [hqS]
        by_cases h1 : (untilQ x).length = x.length
        · rw [if_pos h1]
        · rw [if_neg h1]
          have hne : rest ≠ [] := fun z => h1 (hrest.mp z)
          have hlp : 0 < rest.length := List.length_pos_iff.mpr hne
          rw [decide_eq_true (by omega), Bool.true_and] at hb2
          rw [if_pos (by simpa using hb2)]
      apply ss_next
      show SemS K W (tRet (tVar 3)) [_, _, _, Sl.own (_ ++ _), _, _] _
      rw [eown hq0]
      exact efin _ _
  · have hc : t[a] ≠ 34 := by intro z; have := of_decide_eq_false hb; rw [mark1, z] at this; exact this rfl
    have hq0 : quoteS r = 0 := by rw [hdr, quoteS_cons, if_neg hc]
    apply ss_next
    show SemS K W (tRet (tVar 3)) [_, _, _, Sl.own (_ ++ _), _, _] _
    rw [eown hq0]
    exact efin _ _

/-! ### _law_cut -/
def dueD : Except Nat (List Wd) → Dat
  | .ok ws => .lst (ws.map wDat)
  | .error p => .int (p : Int)
def R__law_cut (ds : List Dat) (d : Dat) : Prop := ∃ t fixed, ds = [.txt t, .lst (fixed.map .txt)] ∧ t.length ≤ 100000 ∧ (∀ w ∈ fixed, w.length ≤ 1000) ∧ fixed.length ≤ 1000 ∧ (∀ w ∈ fixed, w ≠ []) ∧ d = dueD (cutR fixed 0 t)
theorem r__law_cut {t : List Nat} {fixed : List (List Nat)} (h : t.length ≤ 100000) (h2 : ∀ w ∈ fixed, w.length ≤ 1000) (h3 : fixed.length ≤ 1000) (h4 : ∀ w ∈ fixed, w ≠ []) : R__law_cut [.txt t, .lst (fixed.map .txt)] (dueD (cutR fixed 0 t)) := ⟨t, fixed, rfl, h, h2, h3, h4, rfl⟩
theorem blanks_str : (Str.ofString " \t\n").cps.toList = blanks := by decide +kernel
theorem h__law_cut {K : PySem.W.Frag} {W : WX} (ds : List Dat) (d : Dat) (h : R__law_cut ds d) : SemS K W (T__law_cut K (spD K R__law_stands)) (slots 7 ds) (PF d) := by
  obtain ⟨t, fixed, rfl, hl, hw, hf, hne, ho⟩ := h
  have hS : sizeLine = 16777216 := rfl
  have hl6 : t.length ≤ 1000000 := by omega
  apply ss_seq
  refine ss_asgN (ds := []) (sn_lst sa_nil) ?_
  apply ss_seq
  apply ss_asg
  · walk_at "sem"
  apply ss_seq
  refine ss_while (fun m ρ => ∃ (a : Nat) (acc : List Wd) (s4 s5 s6 : Sl), ρ = [.dat (.txt t), .dat (.lst (fixed.map .txt)), .own (acc.map wDat), .dat (.int (a : Int)), s4, s5, s6] ∧ a ≤ t.length ∧ m = t.length - a ∧ acc.length ≤ a ∧ cutR fixed 0 t = ahead acc (cutR fixed a (t.drop a))) t.length
    ⟨0, [], _, _, _, rfl, Nat.zero_le _, rfl, Nat.le_refl _, by rw [List.drop_zero]; cases cutR fixed 0 t <;> rfl⟩ ?_
  rintro m ρ1 ⟨a, acc, s4, s5, s6, rfl, ha, rfl, hal, hc⟩
  refine ⟨decide ((a : Int) < (t.length : Int)), ?_, fun hb => ?_, fun hb => ?_⟩
  · walk_at "test"
  · have hlt : a < t.length := by have := of_decide_eq_true hb; omega
    have hx : atI t (a : Int) = some t[a] := atI_nat (List.getElem?_eq_getElem hlt)
    have hdr : t.drop a = t[a] :: t.drop (a + 1) := List.drop_eq_getElem_cons hlt
    apply ss_seq
    refine ss_if (k := decide (t[a] ∈ blanks)) (st_test (s_op (a := .txt [t[a]]) (b := .txt blanks) (s_op (a := .txt t) (b := .int (a : Int)) ?_ ?_ (os_ixT hx (by omega))) (s_is s_str (by rw [blanks_str])) os_inC)) (fun hb1 => ?_) (fun hb1 => ?_)
    · walk_at "sem"
    · walk_at "sem"
    · have hb1 := of_decide_eq_true hb1
      apply ss_seq
      refine ss_asg (d := .int ((a : Int) + 1)) (by walk_at "sem") ?_
      apply ss_cont
      refine ⟨t.length - (a + 1), by omega, a + 1, acc, s4, s5, s6, rfl, by omega, rfl, by omega, ?_⟩
      rw [hc, hdr, cutR_blank hb1]
    · have hb1 : t[a] ∉ blanks := of_decide_eq_false hb1
      have hwl := wordS_len (t.drop a) fixed
      rw [List.length_drop] at hwl
      have hcw : (wordS (t.drop a) fixed).2 ≠ 0 → cutR fixed a (t.drop a) = (cutR fixed (a + (wordS (t.drop a) fixed).2) ((t.drop a).drop (wordS (t.drop a) fixed).2)).map fun l => ((wordS (t.drop a) fixed).1, (t.drop a).take (wordS (t.drop a) fixed).2, a) :: l := by
        rw [hdr]
        exact fun z => cutR_word hb1 z
      have hcn : (wordS (t.drop a) fixed).2 = 0 → cutR fixed a (t.drop a) = .error a := by
        rw [hdr]
        exact fun z => cutR_none hb1 z
      obtain ⟨⟨mn, mo, mk⟩, hm1, hm2, hm3, hm4⟩ := best (t.drop a) fixed hne
      replace hm2 : mn = (wordS (t.drop a) fixed).2 := hm2
      replace hm3 : (wordS (t.drop a) fixed).2 ≠ 0 → mk = (wordS (t.drop a) fixed).1 := hm3
      apply ss_next
      apply ss_seq
      refine ss_asgG (d := sD (mn, mo, mk)) (s_cb (sa_cons (s_call (sa_cons (s_var rfl) (sa_cons (s_var rfl) (sa_cons (s_var rfl) sa_nil))) (r__law_stands hlt hl6 hw hf)) sa_nil) (cs_best hm1 hm4)) (sg_tup (sgs_cons sg_name (sgs_cons sg_name (sgs_cons sg_name sgs_nil))) rfl) ?_
      clear hm1 hm4
      generalize wordS (t.drop a) fixed = f at hwl hcw hcn hm2 hm3
      subst hm2
      apply ss_seq
      apply ss_if
      · walk_at "test"
      · intro hb2
        have hb2 : f.2 = 0 := by have := of_decide_eq_true hb2; omega
        have hex : d = .int (a : Int) := by rw [ho, hc, hcn hb2]; rfl
        rw [hex]
        apply ss_ret
        · walk_at "sem"
        · rfl
      · intro hb2
        replace hb2 : f.2 ≠ 0 := by have := of_decide_eq_false hb2; omega
        replace hm3 := hm3 hb2
        subst hm3
        apply ss_next
        apply ss_seq
        have hcut : cutL t (some (a : Int)) (some ((a + f.2 : Nat) : Int)) = (t.drop a).take f.2 := by
          rw [cut_between t a (a + f.2) (by omega) (by omega), Nat.add_sub_cancel_left]
        refine ss_app (ds := acc.map wDat) (d := wDat (f.1, (t.drop a).take f.2, a)) rfl ?_ (by rw [List.length_map]; omega) ?_
        · refine s_tup (ds := [.txt f.1, .txt ((t.drop a).take f.2), .int (a : Int)]) (sa_cons (s_var rfl) (sa_cons ?_ (sa_cons (s_var rfl) sa_nil))) (by show 3 ≤ sizeLine; decide)
          rw [← hcut]
          walk_at "sem"
        · refine ss_asg (d := .int ((a : Int) + (f.2 : Int))) (by walk_at "sem") ?_
          refine ⟨t.length - (a + f.2), by omega, a + f.2, acc ++ [(f.1, (t.drop a).take f.2, a)], .dat (.int (f.2 : Int)), .dat (.int (mo : Int)), .dat (.txt f.1), ?_, by omega, rfl, ?_, ?_⟩
          · rw [List.map_append]
            rfl
          · rw [List.length_append]
            show acc.length + 1 ≤ a + f.2
            omega
          · rw [hc, hcw hb2, ahead_map, List.drop_drop]
  · have hge : a = t.length := by have := of_decide_eq_false hb; omega
    subst hge
    rw [List.drop_length, cutR_nil] at hc
    have hv : d = .lst (acc.map wDat) := by
      rw [ho, hc]
      show dueD (.ok (acc ++ [])) = _
      rw [List.append_nil]
      rfl
    rw [hv]
    refine ss_freeze 2 rfl ?_
    apply ss_ret
    · walk_at "sem"
    · rfl
/-! ### _law_told -/
def outTold : Except Nat (List Wd) → Out
  | .ok ws => .new (ws.map wDat)
  | .error p => .val (.int (p : Int))
def R__law_told (ds : List Dat) (o : Out) : Prop := ∃ t fixed fx, ds = [.txt t, fx] ∧ itemsD fx = some (fixed.map .txt) ∧ t.length ≤ 100000 ∧ (∀ w ∈ fixed, w.length ≤ 1000) ∧ o = outTold (cutR fixed 0 t)
theorem r__law_told {t : List Nat} {fixed : List (List Nat)} {fx : Dat} (hfx : itemsD fx = some (fixed.map .txt)) (h : t.length ≤ 100000) (h2 : ∀ w ∈ fixed, w.length ≤ 1000) : R__law_told [.txt t, fx] (outTold (cutR fixed 0 t)) := ⟨t, fixed, fx, rfl, hfx, h, h2, rfl⟩
theorem h__law_told {K : PySem.W.Frag} {C D : Addr} (he : PySem.W.exmOne K (.ref C) (.ref C) = some true) (T : XfC K C) (hno : PySem.W.findIn K (.ref C) "place" = some none) (Ec : ExcC K C)
    (kG : PySem.W.kitOne K (.ref C) (.ref D) = some true) (kV : PySem.W.kitOne K (.ref C) (.type "ValueError") = some true) (W : WX) (ds : List Dat) (o : Out) (h : R__law_told ds o) :
    SemS K W (T__law_told K (spO K (R_cut C)) C D W) (slots 6 ds) (PO o) := by
  obtain ⟨t, fixed, fx, rfl, hfx, hl, hw, ho⟩ := h
  apply ss_seq
  apply ss_asg
  · walk_at "sem"
  apply ss_seq
  apply ss_asg
  · walk_at "sem"
  apply ss_seq
  refine ss_try fun W' => ?_
  have hR : R_cut C [.txt t, fx] (outCut C (cutR fixed 0 t)) := ⟨t, fixed, fx, rfl, hfx, hl, hw, rfl⟩
  cases hz : cutR fixed 0 t with
  | ok ws =>
    rw [hz] at hR ho
    refine ss_asgN (ds := ws.map wDat) (sn_callO (ds := [.txt t, fx]) (sa_cons (s_var rfl) (sa_cons (s_var rfl) sa_nil)) hR) ?_
    apply ss_seq
    refine ss_if (k := true) (st_test (s_op (a := .non) (b := .non) (s_var rfl) s_non os_isN)) (fun _ => ?_) (fun z => by cases z)
    rw [ho]
    exact ss_retOwn rfl rfl
  | error p =>
    rw [hz] at hR ho
    refine sx_asg (C := C) (fs := [("place", .int (p : Int))]) (sx_call (ds := [.txt t, fx]) (sa_cons (s_var rfl) (sa_cons (s_var rfl) sa_nil)) hR) (.inl ⟨he, ?_⟩)
    refine ss_asg (d := .exc C [("place", .int (p : Int))]) (s_var rfl) ?_
    apply ss_seq
    refine ss_if (k := false) (st_test (s_op (a := .exc C [("place", .int (p : Int))]) (b := .non) (s_var rfl) s_non os_isN)) (fun z => by cases z) (fun _ => ?_)
    apply ss_next
    apply ss_seq
    refine ss_asg (d := .bl (true && true)) (s_andB (k := true) (l := true) ?_ (fun _ => ?_)) ?_
    · exact s_cb (sa_cons (s_var rfl) (sa_cons s_cls sa_nil)) (cs_isiE (cv := .ref D) (fun G x r => by cases r; rfl) (.own D) Ec kG)
    · exact s_cb (sa_cons (s_var rfl) (sa_cons s_ty sa_nil)) (cs_isiE (cv := .ty "ValueError") (fun G x r => by cases r; rfl) (.ty "ValueError") Ec kV)
    rw [ho]
    refine ss_ret (d := .int (p : Int)) (s_is (s_if (a := .int (p : Int)) (b := .non) (k := true) (st_bl (s_var rfl)) (fun _ => ?_) (fun z => by cases z)) rfl) rfl
    exact s_fldE (s_var rfl) T hno rfl

/-! ### _law_alike -/
def wP (w : Wd) : PyData := .tuple [.str (strL w.1), .str (strL w.2.1), .int (w.2.2 : Int)]
theorem os_neW {K : PySem.W.Frag} {w : Wd} (h : Okc w.1 ∧ Okc w.2.1) : OpS K (uNe K) (wDat w) (wDat w) (.bl false) := by
  have sh : SeqAt.shaped (toPy (wDat w)) = true := by
    show SeqAt.shaped (wP w) = true
    unfold SeqAt.shaped
    rw [Bool.and_eq_true]
    refine ⟨?_, decide_eq_true (show PyData.depth (wP w) ≤ 64 from by show 1 ≤ 64; omega)⟩
    show (PyData.strOk (strL w.1) && (PyData.strOk (strL w.2.1) && (true && true))) = true
    rw [strOk_of h.1, strOk_of h.2]
    rfl
  have z := os_neD (K := K) (a := wDat w) (b := wDat w) rfl rfl sh sh
  rw [SeqAt.eqv_refl _ (SeqAt.canLay_of_shaped sh)] at z
  exact z
def R__law_alike (ds : List Dat) (d : Dat) : Prop := ∃ e, ds = [dueD e, dueD e] ∧ (∀ ws, e = .ok ws → ∀ w ∈ ws, Okc w.1 ∧ Okc w.2.1) ∧ (∀ ws, e = .ok ws → ws.length ≤ 100000) ∧ d = .bl true
theorem at2 {α : Type} (a b c : α) (r : List α) : atI (a :: b :: c :: r) 2 = some c := atI_nat (j := 2) rfl
theorem h__law_alike {K : PySem.W.Frag} {W : WX} (ds : List Dat) (d : Dat) (h : R__law_alike ds d) : SemS K W (T__law_alike K) (slots 4 ds) (PF d) := by
  obtain ⟨e, rfl, hw, hl, rfl⟩ := h
  have hS : sizeLine = 16777216 := rfl
  cases e with
  | error p =>
    apply ss_seq
    refine ss_if (k := true) (st_bl (s_cb (sa_cons (s_var rfl) (sa_cons s_ty sa_nil)) (cs_isiU rfl kb_int_int))) (fun _ => ?_) (fun z => by cases z)
    refine ss_ret (d := .bl true) (s_is (d := .bl (true && (!false && decide ((p : Int) = (p : Int))))) (s_andB (k := true) (l := !false && decide ((p : Int) = (p : Int))) ?_ (fun _ => s_andB (k := !false) (l := decide ((p : Int) = (p : Int))) (s_notB ?_) (fun _ => ?_))) (by simp)) rfl
    · exact s_cb (sa_cons (s_var rfl) (sa_cons s_ty sa_nil)) (cs_isiU rfl kb_int_int)
    · exact s_cb (sa_cons (s_var rfl) (sa_cons s_ty sa_nil)) (cs_isiU rfl kb_int_bool)
    · exact s_op (s_var rfl) (s_var rfl) os_eqI
  | ok ws =>
    have hw := hw ws rfl
    have hl := hl ws rfl
    apply ss_seq
    refine ss_if (k := false) (st_bl (s_cb (sa_cons (s_var rfl) (sa_cons s_ty sa_nil)) (cs_isiU rfl kb_list_int))) (fun z => by cases z) (fun _ => ?_)
    apply ss_next
    apply ss_seq
    refine ss_if (k := false) (st_is (e := !true || !decide (((ws.map wDat).length : Int) = ((ws.map wDat).length : Int))) (st_or (st_not (st_bl ?_)) (fun _ => st_test ?_)) (by simp)) (fun z => by cases z) (fun _ => ?_)
    · exact s_cb (sa_cons (s_var rfl) (sa_cons s_ty sa_nil)) (cs_isiU rfl kb_list_list)
    · exact s_op (s_cb (sa_cons (s_var rfl) sa_nil) cs_lenL) (s_cb (sa_cons (s_var rfl) sa_nil) cs_lenL) os_neI
    apply ss_next
    apply ss_seq
    refine ss_for (si_zip (ds := ws.map wDat) (es := ws.map wDat) (sa_cons (s_var rfl) (sa_cons (s_var rfl) sa_nil))) (fun i ρ => ∃ s2 s3, ρ = [.dat (.lst (ws.map wDat)), .dat (.lst (ws.map wDat)), s2, s3]) ⟨_, _, rfl⟩ ?_ ?_
    · rintro i d ρ1 hd ⟨s2, s3, rfl⟩
      have hz : ∃ w ∈ ws, d = .tup [wDat w, wDat w] := by
        rw [List.getElem?_map] at hd
        cases hx : ((ws.map wDat).zip (ws.map wDat))[i]? with
        | none => rw [hx] at hd; cases hd
        | some z =>
          rw [hx] at hd
          obtain ⟨z1, z2⟩ := List.getElem?_zip_eq_some.mp hx
          rw [List.getElem?_map] at z1 z2
          cases hy : ws[i]? with
          | none => rw [hy] at z1; cases z1
          | some w =>
            rw [hy] at z1 z2
            have z1 : wDat w = z.1 := Option.some.inj z1
            have z2 : wDat w = z.2 := Option.some.inj z2
            refine ⟨w, List.mem_of_getElem? hy, ?_⟩
            have hd : Dat.tup [z.1, z.2] = d := Option.some.inj hd
            rw [← hd, ← z1, ← z2]
      obtain ⟨w, hwm, rfl⟩ := hz
      refine ⟨_, sg_tup (sgs_cons sg_name (sgs_cons sg_name sgs_nil)) rfl, ?_⟩
      refine ss_if (k := false) (st_is (e := !true || (false || false)) (st_or (st_not (st_bl ?_)) (fun _ => st_or (st_test ?_) (fun _ => st_bl ?_))) rfl) (fun z => by cases z) (fun _ => ?_)
      · exact s_cb (sa_cons (a := wDat w) (s_var rfl) (sa_cons s_ty sa_nil)) (cs_isiU rfl kb_tuple_tuple)
      · exact s_op (a := wDat w) (b := wDat w) (s_var rfl) (s_var rfl) (os_neW (hw w hwm))
      · exact s_cb (sa_cons (a := .int (w.2.2 : Int)) (s_op (a := wDat w) (b := .int 2) (s_var rfl) s_int (os_ixU (at2 _ _ _ _))) (sa_cons s_ty sa_nil)) (cs_isiU rfl kb_int_bool)
      · exact ss_next ⟨_, _, rfl⟩
    · rintro ρ1 ⟨s2, s3, rfl⟩
      exact ss_ret s_bl rfl
/-! ### the law -/
theorem cutL_map {α β : Type} (f : α → β) (xs : List α) (lo hi : Option Int) : cutL (xs.map f) lo hi = (cutL xs lo hi).map f := by
  unfold cutL
  rw [List.length_map, ← List.map_drop, ← List.map_take]
theorem cutL_mem {α : Type} {xs : List α} {lo hi : Option Int} {x : α} (h : x ∈ cutL xs lo hi) : x ∈ xs := by
  unfold cutL at h
  exact List.mem_of_mem_drop (List.mem_of_mem_take h)
theorem os_neTxtsSelf {K : PySem.W.Frag} {ts : List (List Nat)} (h : ∀ t ∈ ts, ∀ c ∈ t, c < 1114112) : OpS K (uNe K) (.lst (ts.map .txt)) (.lst (ts.map .txt)) (.bl false) := by
  have sh := shaped_txts h
  have z := os_neD (K := K) (a := .lst (ts.map .txt)) (b := .lst (ts.map .txt)) (plain_txts ts) (plain_txts ts) sh sh
  rw [SeqAt.eqv_refl _ (SeqAt.canLay_of_shaped sh)] at z
  exact z
def R_law (ds : List Dat) (d : Dat) : Prop := ∃ ns, ds = [.scr ns] ∧ ns.length ≤ 63 ∧ d = .bl true
/-- what is told, in an expression -/
theorem s_told {K : PySem.W.Frag} {ρ : List Sl} {u : TA} {t : List Nat} {fixed : List (List Nat)} {fx : Dat} (h : SemA K u ρ [.txt t, fx]) (hfx : itemsD fx = some (fixed.map .txt)) (hl : t.length ≤ 100000) (hw : ∀ w ∈ fixed, w.length ≤ 1000) :
    Sem K (tCall (spO K R__law_told) [] E0 u) ρ (dueD (cutR fixed 0 t)) := by
  have hR := r__law_told hfx hl hw
  cases hz : cutR fixed 0 t with
  | ok ws =>
    rw [hz] at hR
    exact s_ofN (sn_callO0 h hR)
  | error p =>
    rw [hz] at hR
    exact s_callO0 h hR
local macro_rules | `(tactic| walk_at "fn") => `(tactic| first
  | (apply r__law_cell; (· walk_at "side"); (· walk_at "side"); (· walk_at "side"))
  | (apply r__law_fixed_by; (· walk_at "side"); (· walk_at "side")))
theorem h_law {K : PySem.W.Frag} {W : WX} (ds : List Dat) (d : Dat) (h : R_law ds d) :
    SemS K W (T_law K (spD K R__law_cell) (spD K R__law_fixed_by) (spD K R__law_piece) (spD K R__law_cut) (spO K R__law_told) (spD K R__law_alike)) (slots 9 ds) (PF d) := by
  obtain ⟨ns, rfl, hn, rfl⟩ := h
  have hS : sizeLine = 16777216 := rfl
  have q1 := cellF_lo ns 0
  apply ss_seq
  generalize hfx : (List.range (cellF ns 0 % 7).toNat).map (fun k : Nat => fixedBy (cellF ns (700 + (k : Int)))) = fixed
  have hfl : fixed.length ≤ 6 := by rw [← hfx, List.length_map, List.length_range]; omega
  have hmem : ∀ w ∈ fixed, ∃ c, w = fixedBy c := fun w hw => by
    rw [← hfx] at hw
    obtain ⟨k, _, rfl⟩ := List.mem_map.mp hw
    exact ⟨_, rfl⟩
  have F : Fx fixed := ⟨fun w hw => by obtain ⟨c, rfl⟩ := hmem w hw; exact (fixedBy_good c).1, fun w hw x hx => by obtain ⟨c, rfl⟩ := hmem w hw; exact ((fixedBy_good c).2 x hx).1⟩
  have Fl : Fxl fixed := ⟨fun w hw => by obtain ⟨c, rfl⟩ := hmem w hw; exact fixedBy_len c, fun w hw x hx => by obtain ⟨c, rfl⟩ := hmem w hw; exact ((fixedBy_good c).2 x hx).2, by omega⟩
  have F1000 : ∀ w ∈ fixed, w.length ≤ 1000 := fun w hw => by have := Fl.len w hw; omega
  refine ss_asg (d := .lst (fixed.map .txt)) (s_is (d := .lst ((List.range (cellF ns 0 % 7).toNat).map fun k : Nat => .txt (fixedBy (cellF ns (700 + (k : Int)))))) (s_ofN (sn_lcM (enc := fun k : Nat => .int (k : Int)) ?_ ?_ fun k hk => ?_)) ?_) ?_
  · walk_at "iter"
  · rw [List.length_range]; omega
  · have hk2 := List.mem_range.mp hk
    have b1 := cellF_lo ns (700 + (k : Int))
    have b2 := cellF_hi ns (700 + (k : Int))
    walk_at "sem"
  · rw [← hfx, List.map_map]; rfl
  apply ss_seq
  refine ss_asg (d := .lst (fixed.map .txt)) (s_ofN (sn_list (sa_cons (s_var rfl) sa_nil) rfl)) ?_
  apply ss_seq
  generalize hpc : (List.range (max 8 (min (ns.length : Int) 28)).toNat).map (fun k : Nat => pieceF fixed (cellF ns (1 + (k : Int)))) = pcs
  have hpl : pcs.length ≤ 28 := by rw [← hpc, List.length_map, List.length_range]; omega
  have hpm : ∀ p ∈ pcs, p.length ≤ 8 ∧ Okc p := fun p hp => by
    rw [← hpc] at hp
    obtain ⟨k, _, rfl⟩ := List.mem_map.mp hp
    exact pieceF_ok Fl _
  have hjoin : ∀ sub : List (List Nat), sub.length ≤ 28 → (∀ p ∈ sub, p ∈ pcs) → (joinL emp sub).length ≤ 224 ∧ Okc (joinL emp sub) ∧ (sub.map (·.length)).sum + sub.length * emp.length ≤ 16777216 := fun sub h1 h2 => by
    have e := joinL_emp (fun p : List Nat => p) sub
    have l := joinL_len (fun p : List Nat => p) 8 sub fun p hp => (hpm p (h2 p hp)).1
    have s := sum_len_le (fun p : List Nat => p) 8 sub fun p hp => (hpm p (h2 p hp)).1
    rw [List.map_id'] at e l s
    refine ⟨by omega, ?_, by rw [emp_nil]; show _ + _ * 0 ≤ _; omega⟩
    rw [e]
    intro c hc
    obtain ⟨l, hl2, hcl⟩ := List.mem_flatten.mp hc
    exact (hpm l (h2 l hl2)).2 c hcl
  refine ss_asg (d := .lst (pcs.map .txt)) (s_is (d := .lst ((List.range (max 8 (min (ns.length : Int) 28)).toNat).map fun k : Nat => .txt (pieceF fixed (cellF ns (1 + (k : Int)))))) (s_ofN (sn_lcM (enc := fun k : Nat => .int (k : Int)) ?_ ?_ fun k hk => ?_)) ?_) ?_
  · walk_at "iter"
  · rw [List.length_range]; omega
  · have hk2 := List.mem_range.mp hk
    refine s_call (ds := [.int (cellF ns (1 + (k : Int))), .lst (fixed.map .txt)]) (sa_cons ?_ (sa_cons (s_var rfl) sa_nil)) (r__law_piece Fl)
    walk_at "sem"
  · rw [← hpc, List.map_map]; rfl
  clear hpc
  apply ss_seq
  obtain ⟨htl, hto, htj⟩ := hjoin pcs hpl fun _ h => h
  refine ss_asg (d := .txt (joinL emp pcs)) (s_m1 s_str (s_var rfl) (ms_join htj)) ?_
  generalize joinL emp pcs = text at htl hto
  apply ss_seq
  refine ss_asg (d := dueD (cutR fixed 0 text)) (s_call (sa_cons (s_var rfl) (sa_cons (s_var rfl) sa_nil)) (r__law_cut (by omega) F1000 (by omega) F.ne)) ?_
  have alike : ∀ t, t.length ≤ 224 → Okc t → R__law_alike [dueD (cutR fixed 0 t), dueD (cutR fixed 0 t)] (.bl true) := fun t h1 h2 =>
    ⟨_, rfl, fun ws hz => cut_okc Fl.ok _ t 0 ws (Nat.le_refl _) h2 hz, fun ws hz => by have := (cov_sum (cut_ok F _ t 0 ws (Nat.le_refl _) hz).1).2; omega, rfl⟩
  have fin : ∀ s6 s7 s8, SemS K W (tSeq (tFor (iRng1 (tCons (tCB (uLen K) (tCons (tVar 3) tNil)) tNil)) (gName 7) (tSeq (tAsg (tM1 (uJoin K) (tC (.str (Str.ofString ""))) (tSl (uSl K) (tSl (uSl K) (tVar 3) tNoPart (tPart (tVar 7))) (tPart (tUn uNeg (tC (.int 6)))) tNoPart)) (gName 8))
      (tIfS (tNot (tTru K (tCall (spD K R__law_alike) [] E0 (tCons (tCall (spO K R__law_told) [] E0 (tCons (tVar 8) (tCons (tOp (rIx K) (tLst (tCons (tVar 1) (tCons (tCB (uTuple K) (tCons (tVar 1) tNil)) tNil))) (tOp uMod (tVar 7) (tC (.int 2)))) tNil))) (tCons (tCall (spD K R__law_cut) [] E0 (tCons (tVar 8) (tCons (tVar 1) tNil))) tNil))))) (tRet (tC (.bl false))) tNext)))
      (tRet (tCall (spD K R__law_alike) [] E0 (tCons (tCall (spO K R__law_told) [] E0 (tCons (tVar 4) (tCons (tVar 1) tNil))) (tCons (tVar 5) tNil)))))
      [.dat (.scr ns), .dat (.lst (fixed.map .txt)), .dat (.lst (fixed.map .txt)), .dat (.lst (pcs.map .txt)), .dat (.txt text), .dat (dueD (cutR fixed 0 text)), s6, s7, s8] (PF (.bl true)) := by
    intro s6 s7 s8
    apply ss_seq
    refine ss_for (ds := (List.range ((pcs.map Dat.txt).length : Int).toNat).map fun k : Nat => .int ((k : Nat) : Int)) (si_range1Z ?_ (by omega) (by rw [List.length_map]; omega)) (fun i ρ => ∃ s7 s8, ρ = [.dat (.scr ns), .dat (.lst (fixed.map .txt)), .dat (.lst (fixed.map .txt)), .dat (.lst (pcs.map .txt)), .dat (.txt text), .dat (dueD (cutR fixed 0 text)), s6, s7, s8]) ⟨_, _, rfl⟩ ?_ ?_
    · walk_at "sems"
    · rintro i d ρ1 hd ⟨s7, s8, rfl⟩
      have hd : ∃ k : Nat, d = .int (k : Int) := by
        rw [List.getElem?_map] at hd
        cases hx : (List.range ((pcs.map Dat.txt).length : Int).toNat)[i]? with
        | none => rw [hx] at hd; cases hd
        | some k => rw [hx] at hd; exact ⟨k, (Option.some.inj hd).symm⟩
      obtain ⟨k, rfl⟩ := hd
      refine ⟨_, sg_name, ?_⟩
      generalize hsub : cutL (cutL pcs none (some (k : Int))) (some (-6)) none = sub
      have hsm : ∀ p ∈ sub, p ∈ pcs := fun p hp => by rw [← hsub] at hp; exact cutL_mem (cutL_mem hp)
      have hsl : sub.length ≤ 28 := by
        rw [← hsub]
        exact Nat.le_trans (cutL_len _ _ _) (Nat.le_trans (cutL_len _ _ _) hpl)
      obtain ⟨p1, p2, p3⟩ := hjoin sub hsl hsm
      apply ss_seq
      refine ss_asg (d := .txt (joinL emp sub)) (s_m1 (d := .lst (sub.map .txt)) s_str ?_ (ms_join p3)) ?_
      · rw [← hsub, ← cutL_map, ← cutL_map]
        refine s_sl (a := .lst (cutL (pcs.map Dat.txt) none (some (k : Int)))) (lo := some (-6)) (hi := none) ?_ (so_some (s_un s_int us_neg)) so_none ss_lst
        exact s_sl (a := .lst (pcs.map .txt)) (lo := none) (hi := some (k : Int)) (s_var rfl) so_none (so_some (s_var rfl)) ss_lst
      generalize joinL emp sub = part at p1 p2
      have hpar : ∃ fx, atI [Dat.lst (fixed.map .txt), Dat.tup (fixed.map .txt)] ((k : Int) % 2) = some fx ∧ itemsD fx = some (fixed.map .txt) := by
        by_cases hk : (k : Int) % 2 = 0
        · rw [hk]; exact ⟨_, rfl, rfl⟩
        · have : (k : Int) % 2 = 1 := by omega
          rw [this]; exact ⟨_, rfl, rfl⟩
      obtain ⟨fx, hx, hfx2⟩ := hpar
      refine ss_if (k := false) (st_is (st_not (k := true) (st_bl (s_call (sa_cons (s_told (sa_cons (s_var rfl) (sa_cons (s_op ?_ ?_ (os_ixL hx)) sa_nil)) hfx2 (by omega) F1000) (sa_cons (s_call (sa_cons (s_var rfl) (sa_cons (s_var rfl) sa_nil)) (r__law_cut (by omega) F1000 (by omega) F.ne)) sa_nil)) (alike part p1 p2)))) rfl) (fun z => by cases z) (fun _ => ?_)
      · exact s_lst (sa_cons (s_var rfl) (sa_cons (s_cb (sa_cons (s_var rfl) sa_nil) (cs_tuple rfl)) sa_nil)) (by show 2 ≤ sizeLine; decide)
      · walk_at "sem"
      · exact ss_next ⟨_, _, rfl⟩
    · rintro ρ1 ⟨s7, s8, rfl⟩
      exact ss_ret (s_call (sa_cons (s_told (sa_cons (s_var rfl) (sa_cons (s_var rfl) sa_nil)) rfl (by omega) F1000) (sa_cons (s_var rfl) sa_nil)) (alike text htl hto)) rfl
  have hal := alike text htl hto
  have hR := r__law_told (t := text) (fixed := fixed) (fx := .lst (fixed.map .txt)) rfl (by omega) F1000
  apply ss_seq
  cases hz : cutR fixed 0 text with
  | ok ws =>
    have hwl := (cov_sum (cut_ok F _ text 0 ws (Nat.le_refl _) hz).1).2
    rw [hz] at hR hal fin
    refine ss_asgN (ds := ws.map wDat) (sn_callO0 (sa_cons (s_var rfl) (sa_cons (s_var rfl) sa_nil)) hR) ?_
    apply ss_seq
    refine ss_if (k := false) (st_is (e := !true || false) (st_or (st_not (st_bl (s_peek (i := 6) rfl rfl (s_call (sa_cons (s_var rfl) (sa_cons (s_var rfl) sa_nil)) hal)))) (fun _ => st_test (s_op (s_var rfl) (s_var rfl) (os_neTxtsSelf Fl.ok)))) rfl) (fun z => by cases z) (fun _ => ?_)
    apply ss_next
    apply ss_seq
    refine ss_if (k := true) (st_bl (s_peek (i := 6) rfl rfl (s_cb (sa_cons (s_var rfl) (sa_cons s_ty sa_nil)) (cs_isiU rfl kb_list_list)))) (fun _ => ?_) (fun z => by cases z)
    refine ss_app (d := .non) rfl s_non (by rw [List.length_map]; omega) ?_
    exact fin _ _ _
  | error p =>
    rw [hz] at hR hal fin
    refine ss_asg (d := .int (p : Int)) (s_callO0 (sa_cons (s_var rfl) (sa_cons (s_var rfl) sa_nil)) hR) ?_
    apply ss_seq
    refine ss_if (k := false) (st_is (e := !true || false) (st_or (st_not (st_bl (s_call (sa_cons (s_var rfl) (sa_cons (s_var rfl) sa_nil)) hal))) (fun _ => st_test (s_op (s_var rfl) (s_var rfl) (os_neTxtsSelf Fl.ok)))) rfl) (fun z => by cases z) (fun _ => ?_)
    apply ss_next
    apply ss_seq
    refine ss_if (k := false) (st_bl (s_cb (sa_cons (s_var rfl) (sa_cons s_ty sa_nil)) (cs_isiU rfl kb_int_list))) (fun z => by cases z) (fun _ => ?_)
    apply ss_next
    exact fin _ _ _

theorem len_kind_of : ∀ ds d, R_kind_of ds d → ds.length = 1 := by rintro ds d ⟨_, rfl, _⟩; rfl
theorem len_run_of : ∀ ds d, R_run_of ds d → ds.length = 3 := by rintro ds d ⟨_, _, _, rfl, _⟩; rfl
theorem len_quote_at : ∀ ds d, R_quote_at ds d → ds.length = 2 := by rintro ds d ⟨_, _, rfl, _⟩; rfl
theorem len_word_at : ∀ ds d, R_word_at ds d → ds.length = 3 := by rintro ds d ⟨_, _, _, _, rfl, _⟩; rfl
theorem len_cut {C : Addr} : ∀ ds d, R_cut C ds d → ds.length = 2 := by rintro ds d ⟨_, _, _, rfl, _⟩; rfl
theorem len__law_cell : ∀ ds d, R__law_cell ds d → ds.length = 2 := by rintro ds d ⟨_, _, rfl, _⟩; rfl
theorem len__law_signs : ∀ ds d, R__law_signs ds d → ds.length = 0 := by rintro ds d ⟨rfl, _⟩; rfl
theorem len__law_fixed_by : ∀ ds d, R__law_fixed_by ds d → ds.length = 1 := by rintro ds d ⟨_, rfl, _⟩; rfl
theorem len__law_piece : ∀ ds d, R__law_piece ds d → ds.length = 2 := by rintro ds d ⟨_, _, rfl, _⟩; rfl
theorem len__law_run : ∀ ds d, R__law_run ds d → ds.length = 3 := by rintro ds d ⟨_, _, _, rfl, _⟩; rfl
theorem len__law_stands : ∀ ds d, R__law_stands ds d → ds.length = 3 := by rintro ds d ⟨_, _, _, rfl, _⟩; rfl
theorem len__law_cut : ∀ ds d, R__law_cut ds d → ds.length = 2 := by rintro ds d ⟨_, _, rfl, _⟩; rfl
theorem len__law_told : ∀ ds d, R__law_told ds d → ds.length = 2 := by rintro ds d ⟨_, _, _, rfl, _⟩; rfl
theorem len__law_alike : ∀ ds d, R__law_alike ds d → ds.length = 2 := by rintro ds d ⟨_, rfl, _⟩; rfl
theorem len_law : ∀ ds d, R_law ds d → ds.length = 1 := by rintro ds d ⟨_, rfl, _⟩; rfl
theorem ini_NoWord {K : PySem.W.Frag} {C : Addr} (T : OexC K C) (hno : PySem.W.findIn K (.ref C) "place" = some none) : (∀ vs H Q E, spNW K C vs H Q E → vs.length = (["self", "place"] : List Str).length) ∧
    ∀ vs H Q E, spNW K C vs H Q E → (tSeq (tDrop (tVeI K (tCons (tVar 0) (tCons (M_NoWord K) tNil)))) (tOst K "place" (tVar 0) (tVar 1))) { nx := fun _ H' => Q .non H', rt := Q } (L2.start ["self", "place"] vs) H := by
  refine ⟨fun vs H Q E h => ?_, ini1 T hno (fun ws h => ?_) (fun σ H v Q hv hs hq => ?_)⟩
  · obtain ⟨a, ws, rfl, ⟨i, rfl, _⟩, _⟩ := h
    rfl
  · obtain ⟨i, rfl, _⟩ := h
    exact ⟨_, rfl⟩
  · obtain ⟨i, e, hi⟩ := hv
    cases e
    refine ⟨.int i, hs, .inl ⟨i, rfl, hi, .inr (.inl ⟨_, _, rfl, rfl, ?_, hq _⟩)⟩⟩
    have h1 := int_text_len_1921 hi
    have h2 : (Str.ofString "no word at ").length = 11 := by decide +kernel
    rw [h2]
    unfold sizeLine
    omega
def spLaw (K : PySem.W.Frag) : Sp := fun vs H Q _ => ∃ (a : Addr) (ns : List Int), vs = [.ref a] ∧ SqL K H a (ns.map V.int) ∧ ns.length ≤ 63 ∧ ∀ H', Q (.bl true) H'
set_option maxHeartbeats 4000000 in
theorem all_mk {l : PySem.W.OpenLaw} {w : World} {K : PySem.W.Frag} {h : Heap} {mg : Str → Option Value} {fa : Addr} (X : K.In h) (G : h.Ns mainGlobals mg) (hfa : mg "law" = some (.ref fa))
    {x_NoWord : Addr}
    {x_GrammarError : Addr}
    {nm_NoWord q_NoWord : Str} {N_NoWord : Addr} {bs_NoWord : List Value} {sn_NoWord : List Str} {sub_NoWord : List Value} {ab_NoWord : Bool} {col_NoWord : Option Bool} {dd_NoWord : Option Addr} {m0_NoWord m1_NoWord m2_NoWord m3_NoWord m5_NoWord : Option Value}
    {od_ini_NoWord an_ini_NoWord : Option Addr} {sl_ini_NoWord : Array (Option Value)} {oc_ini_NoWord kV_ini_NoWord dc_ini_NoWord pm_ini_NoWord cd_ini_NoWord ct_ini_NoWord : Value} {f_ini_NoWord : Addr}
    {od__law_cell an__law_cell : Option Addr} {sl__law_cell : Array (Option Value)} {oc__law_cell kV__law_cell dc__law_cell pm__law_cell cd__law_cell ct__law_cell : Value} {f__law_cell : Addr}
    {od__law_signs an__law_signs : Option Addr} {sl__law_signs : Array (Option Value)} {oc__law_signs kV__law_signs dc__law_signs pm__law_signs cd__law_signs ct__law_signs : Value} {f__law_signs : Addr}
    {od__law_fixed_by an__law_fixed_by : Option Addr} {sl__law_fixed_by : Array (Option Value)} {oc__law_fixed_by kV__law_fixed_by dc__law_fixed_by pm__law_fixed_by cd__law_fixed_by ct__law_fixed_by : Value} {f__law_fixed_by : Addr}
    {od__law_piece an__law_piece : Option Addr} {sl__law_piece : Array (Option Value)} {oc__law_piece kV__law_piece dc__law_piece pm__law_piece cd__law_piece ct__law_piece : Value} {f__law_piece : Addr}
    {od__law_run an__law_run : Option Addr} {sl__law_run : Array (Option Value)} {oc__law_run kV__law_run dc__law_run pm__law_run cd__law_run ct__law_run : Value} {f__law_run : Addr}
    {od__law_stands an__law_stands : Option Addr} {sl__law_stands : Array (Option Value)} {oc__law_stands kV__law_stands dc__law_stands pm__law_stands cd__law_stands ct__law_stands : Value} {f__law_stands : Addr}
    {od__law_cut an__law_cut : Option Addr} {sl__law_cut : Array (Option Value)} {oc__law_cut kV__law_cut dc__law_cut pm__law_cut cd__law_cut ct__law_cut : Value} {f__law_cut : Addr}
    {od_run_of an_run_of : Option Addr} {sl_run_of : Array (Option Value)} {oc_run_of kV_run_of dc_run_of pm_run_of cd_run_of ct_run_of : Value} {f_run_of : Addr}
    {od_quote_at an_quote_at : Option Addr} {sl_quote_at : Array (Option Value)} {oc_quote_at kV_quote_at dc_quote_at pm_quote_at cd_quote_at ct_quote_at : Value} {f_quote_at : Addr}
    {od_kind_of an_kind_of : Option Addr} {sl_kind_of : Array (Option Value)} {oc_kind_of kV_kind_of dc_kind_of pm_kind_of cd_kind_of ct_kind_of : Value} {f_kind_of : Addr}
    {od_word_at an_word_at : Option Addr} {sl_word_at : Array (Option Value)} {oc_word_at kV_word_at dc_word_at pm_word_at cd_word_at ct_word_at : Value} {f_word_at : Addr}
    {od_cut an_cut : Option Addr} {sl_cut : Array (Option Value)} {oc_cut kV_cut dc_cut pm_cut cd_cut ct_cut : Value} {f_cut : Addr}
    {od__law_told an__law_told : Option Addr} {sl__law_told : Array (Option Value)} {oc__law_told kV__law_told dc__law_told pm__law_told cd__law_told ct__law_told : Value} {f__law_told : Addr}
    {od__law_alike an__law_alike : Option Addr} {sl__law_alike : Array (Option Value)} {oc__law_alike kV__law_alike dc__law_alike pm__law_alike cd__law_alike ct__law_alike : Value} {f__law_alike : Addr}
    {od_law an_law : Option Addr} {sl_law : Array (Option Value)} {oc_law kV_law dc_law pm_law cd_law ct_law : Value} {f_law : Addr} {tk1 tk2 tk3 tk4 : Tok}
    (n_NoWord : PySem.W.nsIn K mainGlobals "NoWord" = some (some (.ref x_NoWord)))
    (sb_NoWord : PySem.W.subIn K (.ref x_NoWord) (.type "BaseException") = some true)
    (ty_NoWord : PySem.W.typeIn K (.ref x_NoWord) = some (.type "type"))
    (hd_c_NoWord : PySem.W.hasDictIn K x_NoWord = true)
    (kp_NoWord : PySem.W.keepIn K (.ref x_NoWord) = true)
    (ga_NoWord : PySem.W.findIn K (.ref x_NoWord) "__getattribute__" = some (some (.builtin "BaseException.__getattribute__")))
    (gg_NoWord : PySem.W.findIn K (.ref x_NoWord) "__getattr__" = some none)
    (nf_NoWord_place : PySem.W.findIn K (.ref x_NoWord) "place" = some none)
    (cc_NoWord : PySem.W.findIn K (.ref x_NoWord) "__class__" = some (some (.builtin "object.__class__")))
    (cn : PySem.W.specialIn K (.builtin "object.__class__") "__get__" = some (some (.builtin "getset_descriptor.__get__")))
    (ct : PySem.W.takesIn K (.builtin "object.__class__") = some true)
    (mo_NoWord : PySem.W.mroIn K x_NoWord (.type "object") = some true)
    (sub_NoWord_NoWord : PySem.W.subIn K (.ref x_NoWord) (.ref x_NoWord) = some true)
    (n_GrammarError : PySem.W.nsIn K mainGlobals "GrammarError" = some (some (.ref x_GrammarError)))
    (rd_GrammarError : PySem.W.readsIn K x_GrammarError (.type "type") = true)
    (gt_GrammarError : PySem.W.specialIn K (.ref x_GrammarError) "__getattribute__" = some (some (.builtin "type.__getattribute__")))
    (fc_GrammarError : PySem.W.findCls K (.ref x_GrammarError) (.type "type") "__init__" = some (.val (.builtin "ValueError.__init__")))
    (xl_NoWord : K.lookup x_NoWord = some (excClassObj nm_NoWord q_NoWord x_NoWord N_NoWord bs_NoWord [.ref x_GrammarError, .type "ValueError", .type "Exception", .type "BaseException", .type "object"] true sn_NoWord sub_NoWord ab_NoWord col_NoWord dd_NoWord m0_NoWord m1_NoWord m2_NoWord m3_NoWord m5_NoWord "ValueError.__new__"))
    (sa_NoWord : PySem.W.findIn K (.ref x_NoWord) "__setattr__" = some (some (.builtin "object.__setattr__")))
    (a_ini_NoWord : PySem.W.findIn K (.ref x_NoWord) "__init__" = some (some (.ref f_ini_NoWord)))
    (l_ini_NoWord : K.lookup f_ini_NoWord = some ⟨oc_ini_NoWord, od_ini_NoWord, .func (PySem.W.fnOf "__init__" "NoWord.__init__" (defArgs s_ini_NoWord) (defBody s_ini_NoWord) (defScope s_ini_NoWord) .none kV_ini_NoWord dc_ini_NoWord pm_ini_NoWord an_ini_NoWord cd_ini_NoWord ct_ini_NoWord), sl_ini_NoWord⟩)
    (c_ini_NoWord : PySem.W.codeIn K cd_ini_NoWord "NoWord.__init__" = true)
    (k_ini_NoWord : PySem.W.keepIn K (.ref f_ini_NoWord) = true)
    (ti_NoWord : PySem.W.typeIn K (.ref f_ini_NoWord) = some (.type "function"))
    (z_str : PySem.W.nsIn K mainGlobals "str" = some none)
    (ki_NoWord_GrammarError : PySem.W.kitOne K (.ref x_NoWord) (.ref x_GrammarError) = some true)
    (ki_NoWord_ValueError : PySem.W.kitOne K (.ref x_NoWord) (.type "ValueError") = some true)
    (a__law_cell : PySem.W.nsIn K mainGlobals "_law_cell" = some (some (.ref f__law_cell)))
    (l__law_cell : K.lookup f__law_cell = some ⟨oc__law_cell, od__law_cell, .func (PySem.W.fnOf "_law_cell" "_law_cell" (defArgs s__law_cell) (defBody s__law_cell) (defScope s__law_cell) .none kV__law_cell dc__law_cell pm__law_cell an__law_cell cd__law_cell ct__law_cell), sl__law_cell⟩)
    (c__law_cell : PySem.W.codeIn K cd__law_cell "_law_cell" = true)
    (k__law_cell : PySem.W.keepIn K (.ref f__law_cell) = true)
    (a__law_signs : PySem.W.nsIn K mainGlobals "_law_signs" = some (some (.ref f__law_signs)))
    (l__law_signs : K.lookup f__law_signs = some ⟨oc__law_signs, od__law_signs, .func (PySem.W.fnOf "_law_signs" "_law_signs" (defArgs s__law_signs) (defBody s__law_signs) (defScope s__law_signs) .none kV__law_signs dc__law_signs pm__law_signs an__law_signs cd__law_signs ct__law_signs), sl__law_signs⟩)
    (c__law_signs : PySem.W.codeIn K cd__law_signs "_law_signs" = true)
    (k__law_signs : PySem.W.keepIn K (.ref f__law_signs) = true)
    (a__law_fixed_by : PySem.W.nsIn K mainGlobals "_law_fixed_by" = some (some (.ref f__law_fixed_by)))
    (l__law_fixed_by : K.lookup f__law_fixed_by = some ⟨oc__law_fixed_by, od__law_fixed_by, .func (PySem.W.fnOf "_law_fixed_by" "_law_fixed_by" (defArgs s__law_fixed_by) (defBody s__law_fixed_by) (defScope s__law_fixed_by) .none kV__law_fixed_by dc__law_fixed_by pm__law_fixed_by an__law_fixed_by cd__law_fixed_by ct__law_fixed_by), sl__law_fixed_by⟩)
    (c__law_fixed_by : PySem.W.codeIn K cd__law_fixed_by "_law_fixed_by" = true)
    (k__law_fixed_by : PySem.W.keepIn K (.ref f__law_fixed_by) = true)
    (a__law_piece : PySem.W.nsIn K mainGlobals "_law_piece" = some (some (.ref f__law_piece)))
    (l__law_piece : K.lookup f__law_piece = some ⟨oc__law_piece, od__law_piece, .func (PySem.W.fnOf "_law_piece" "_law_piece" (defArgs s__law_piece) (defBody s__law_piece) (defScope s__law_piece) .none kV__law_piece dc__law_piece pm__law_piece an__law_piece cd__law_piece ct__law_piece), sl__law_piece⟩)
    (c__law_piece : PySem.W.codeIn K cd__law_piece "_law_piece" = true)
    (k__law_piece : PySem.W.keepIn K (.ref f__law_piece) = true)
    (a__law_run : PySem.W.nsIn K mainGlobals "_law_run" = some (some (.ref f__law_run)))
    (l__law_run : K.lookup f__law_run = some ⟨oc__law_run, od__law_run, .func (PySem.W.fnOf "_law_run" "_law_run" (defArgs s__law_run) (defBody s__law_run) (defScope s__law_run) .none kV__law_run dc__law_run pm__law_run an__law_run cd__law_run ct__law_run), sl__law_run⟩)
    (c__law_run : PySem.W.codeIn K cd__law_run "_law_run" = true)
    (k__law_run : PySem.W.keepIn K (.ref f__law_run) = true)
    (a__law_stands : PySem.W.nsIn K mainGlobals "_law_stands" = some (some (.ref f__law_stands)))
    (l__law_stands : K.lookup f__law_stands = some ⟨oc__law_stands, od__law_stands, .func (PySem.W.fnOf "_law_stands" "_law_stands" (defArgs s__law_stands) (defBody s__law_stands) (defScope s__law_stands) .none kV__law_stands dc__law_stands pm__law_stands an__law_stands cd__law_stands ct__law_stands), sl__law_stands⟩)
    (c__law_stands : PySem.W.codeIn K cd__law_stands "_law_stands" = true)
    (k__law_stands : PySem.W.keepIn K (.ref f__law_stands) = true)
    (a__law_cut : PySem.W.nsIn K mainGlobals "_law_cut" = some (some (.ref f__law_cut)))
    (l__law_cut : K.lookup f__law_cut = some ⟨oc__law_cut, od__law_cut, .func (PySem.W.fnOf "_law_cut" "_law_cut" (defArgs s__law_cut) (defBody s__law_cut) (defScope s__law_cut) .none kV__law_cut dc__law_cut pm__law_cut an__law_cut cd__law_cut ct__law_cut), sl__law_cut⟩)
    (c__law_cut : PySem.W.codeIn K cd__law_cut "_law_cut" = true)
    (k__law_cut : PySem.W.keepIn K (.ref f__law_cut) = true)
    (a_run_of : PySem.W.nsIn K mainGlobals "run_of" = some (some (.ref f_run_of)))
    (l_run_of : K.lookup f_run_of = some ⟨oc_run_of, od_run_of, .func (PySem.W.fnOf "run_of" "run_of" (defArgs s_run_of) (defBody s_run_of) (defScope s_run_of) .none kV_run_of dc_run_of pm_run_of an_run_of cd_run_of ct_run_of), sl_run_of⟩)
    (c_run_of : PySem.W.codeIn K cd_run_of "run_of" = true)
    (k_run_of : PySem.W.keepIn K (.ref f_run_of) = true)
    (a_quote_at : PySem.W.nsIn K mainGlobals "quote_at" = some (some (.ref f_quote_at)))
    (l_quote_at : K.lookup f_quote_at = some ⟨oc_quote_at, od_quote_at, .func (PySem.W.fnOf "quote_at" "quote_at" (defArgs s_quote_at) (defBody s_quote_at) (defScope s_quote_at) .none kV_quote_at dc_quote_at pm_quote_at an_quote_at cd_quote_at ct_quote_at), sl_quote_at⟩)
    (c_quote_at : PySem.W.codeIn K cd_quote_at "quote_at" = true)
    (k_quote_at : PySem.W.keepIn K (.ref f_quote_at) = true)
    (a_kind_of : PySem.W.nsIn K mainGlobals "kind_of" = some (some (.ref f_kind_of)))
    (l_kind_of : K.lookup f_kind_of = some ⟨oc_kind_of, od_kind_of, .func (PySem.W.fnOf "kind_of" "kind_of" (defArgs s_kind_of) (defBody s_kind_of) (defScope s_kind_of) .none kV_kind_of dc_kind_of pm_kind_of an_kind_of cd_kind_of ct_kind_of), sl_kind_of⟩)
    (c_kind_of : PySem.W.codeIn K cd_kind_of "kind_of" = true)
    (k_kind_of : PySem.W.keepIn K (.ref f_kind_of) = true)
    (a_word_at : PySem.W.nsIn K mainGlobals "word_at" = some (some (.ref f_word_at)))
    (l_word_at : K.lookup f_word_at = some ⟨oc_word_at, od_word_at, .func (PySem.W.fnOf "word_at" "word_at" (defArgs s_word_at) (defBody s_word_at) (defScope s_word_at) .none kV_word_at dc_word_at pm_word_at an_word_at cd_word_at ct_word_at), sl_word_at⟩)
    (c_word_at : PySem.W.codeIn K cd_word_at "word_at" = true)
    (k_word_at : PySem.W.keepIn K (.ref f_word_at) = true)
    (a_cut : PySem.W.nsIn K mainGlobals "cut" = some (some (.ref f_cut)))
    (l_cut : K.lookup f_cut = some ⟨oc_cut, od_cut, .func (PySem.W.fnOf "cut" "cut" (defArgs s_cut) (defBody s_cut) (defScope s_cut) .none kV_cut dc_cut pm_cut an_cut cd_cut ct_cut), sl_cut⟩)
    (c_cut : PySem.W.codeIn K cd_cut "cut" = true)
    (k_cut : PySem.W.keepIn K (.ref f_cut) = true)
    (a__law_told : PySem.W.nsIn K mainGlobals "_law_told" = some (some (.ref f__law_told)))
    (l__law_told : K.lookup f__law_told = some ⟨oc__law_told, od__law_told, .func (PySem.W.fnOf "_law_told" "_law_told" (defArgs s__law_told) (defBody s__law_told) (defScope s__law_told) .none kV__law_told dc__law_told pm__law_told an__law_told cd__law_told ct__law_told), sl__law_told⟩)
    (c__law_told : PySem.W.codeIn K cd__law_told "_law_told" = true)
    (k__law_told : PySem.W.keepIn K (.ref f__law_told) = true)
    (a__law_alike : PySem.W.nsIn K mainGlobals "_law_alike" = some (some (.ref f__law_alike)))
    (l__law_alike : K.lookup f__law_alike = some ⟨oc__law_alike, od__law_alike, .func (PySem.W.fnOf "_law_alike" "_law_alike" (defArgs s__law_alike) (defBody s__law_alike) (defScope s__law_alike) .none kV__law_alike dc__law_alike pm__law_alike an__law_alike cd__law_alike ct__law_alike), sl__law_alike⟩)
    (c__law_alike : PySem.W.codeIn K cd__law_alike "_law_alike" = true)
    (k__law_alike : PySem.W.keepIn K (.ref f__law_alike) = true)
    (a_law : PySem.W.nsIn K mainGlobals "law" = some (some (.ref f_law)))
    (l_law : K.lookup f_law = some ⟨oc_law, od_law, .func (PySem.W.fnOf "law" "law" (defArgs s_law) (defBody s_law) (defScope s_law) .none kV_law dc_law pm_law an_law cd_law ct_law), sl_law⟩)
    (c_law : PySem.W.codeIn K cd_law "law" = true)
    (k_law : PySem.W.keepIn K (.ref f_law) = true)
    (n_MARK : PySem.W.nsIn K mainGlobals "MARK" = some (some (.str (Str.ofString "\"") tk1)))
    (n_LETTERS : PySem.W.nsIn K mainGlobals "LETTERS" = some (some (.str (Str.ofString "abcdefghijklmnopqrstuvwxyz") tk2)))
    (n_FIGURES : PySem.W.nsIn K mainGlobals "FIGURES" = some (some (.str (Str.ofString "0123456789") tk3)))
    (n_BETWEEN : PySem.W.nsIn K mainGlobals "BETWEEN" = some (some (.str (Str.ofString " \t\n") tk4)))
    (z_len : PySem.W.nsIn K mainGlobals "len" = some none)
    (z_range : PySem.W.nsIn K mainGlobals "range" = some none)
    (z_max : PySem.W.nsIn K mainGlobals "max" = some none)
    (z_isinstance : PySem.W.nsIn K mainGlobals "isinstance" = some none)
    (z_ValueError : PySem.W.nsIn K mainGlobals "ValueError" = some none)
    (z_int : PySem.W.nsIn K mainGlobals "int" = some none)
    (z_bool : PySem.W.nsIn K mainGlobals "bool" = some none)
    (z_list : PySem.W.nsIn K mainGlobals "list" = some none)
    (z_zip : PySem.W.nsIn K mainGlobals "zip" = some none)
    (z_tuple : PySem.W.nsIn K mainGlobals "tuple" = some none)
    (z_min : PySem.W.nsIn K mainGlobals "min" = some none) :
    ∃ fd : FuncData, (∀ (s : Shared) (v : Value), BindsTo s fd ⟨[v], []⟩ [("_law_script", v)]) ∧ ∀ base : Heap, K.In base → base.Ns mainGlobals mg → FnOk l.prog w K mg base CX0 5 fa fd ["_law_script"] (spLaw K) := by
  have e := hfa.symm.trans (PySem.W.mg_of X G a_law)
  cases e
  have rv_MARK : RelV (V.str (Str.ofString "\"")) (.str (Str.ofString "\"") tk1) := ⟨_, rfl⟩
  have hd_MARK : ∀ G, DR K G (V.str (Str.ofString "\"")) (.txt [34]) := fun G => mark1 ▸ .ofStr _
  have rv_LETTERS : RelV (V.str (Str.ofString "abcdefghijklmnopqrstuvwxyz")) (.str (Str.ofString "abcdefghijklmnopqrstuvwxyz") tk2) := ⟨_, rfl⟩
  have hd_LETTERS : ∀ G, DR K G (V.str (Str.ofString "abcdefghijklmnopqrstuvwxyz")) (.txt letters) := fun G => .ofStr _
  have rv_FIGURES : RelV (V.str (Str.ofString "0123456789")) (.str (Str.ofString "0123456789") tk3) := ⟨_, rfl⟩
  have hd_FIGURES : ∀ G, DR K G (V.str (Str.ofString "0123456789")) (.txt figs) := fun G => .ofStr _
  have rv_BETWEEN : RelV (V.str (Str.ofString " \t\n")) (.str (Str.ofString " \t\n") tk4) := ⟨_, rfl⟩
  have hd_BETWEEN : ∀ G, DR K G (V.str (Str.ofString " \t\n")) (.txt blanks) := fun G => blanks_str ▸ .ofStr _
  have xf_NoWord : XfC K x_NoWord := ⟨ga_NoWord, gg_NoWord, sb_NoWord, hd_c_NoWord⟩
  have ec_NoWord : ExcC K x_NoWord := ⟨ga_NoWord, gg_NoWord, sb_NoWord, hd_c_NoWord, cc_NoWord, cn, ct, mo_NoWord⟩
  have exm_NoWord_NoWord : PySem.W.exmOne K (.ref x_NoWord) (.ref x_NoWord) = some true := PySem.W.exm_ref sb_NoWord hd_c_NoWord ty_NoWord sub_NoWord_NoWord
  have oex_NoWord : OexC K x_NoWord := ⟨⟨_, _, _, _, _, _, _, _, _, _, _, _, _, _, _, xl_NoWord, rfl⟩, sa_NoWord, sb_NoWord, ty_NoWord, kp_NoWord⟩
  have F_ini_NoWord := fun_mk (st := s_ini_NoWord) l_ini_NoWord c_ini_NoWord k_ini_NoWord
  have b_ini_NoWord := F_ini_NoWord.binds (ps := ["self", "place"]) fun _ _ _ _ _ _ us hl => match us, hl with | [_, _], _ => rfl
  have F__law_cell := fun_mk (st := s__law_cell) l__law_cell c__law_cell k__law_cell
  have b__law_cell := F__law_cell.binds (ps := ["_law_script", "_law_k"]) fun _ _ _ _ _ _ us hl => match us, hl with | [_, _], _ => rfl
  have F__law_signs := fun_mk (st := s__law_signs) l__law_signs c__law_signs k__law_signs
  have b__law_signs := F__law_signs.binds (ps := []) fun _ _ _ _ _ _ us hl => match us, hl with | [], _ => rfl
  have F__law_fixed_by := fun_mk (st := s__law_fixed_by) l__law_fixed_by c__law_fixed_by k__law_fixed_by
  have b__law_fixed_by := F__law_fixed_by.binds (ps := ["_law_cell_here"]) fun _ _ _ _ _ _ us hl => match us, hl with | [_], _ => rfl
  have F__law_piece := fun_mk (st := s__law_piece) l__law_piece c__law_piece k__law_piece
  have b__law_piece := F__law_piece.binds (ps := ["_law_cell_here", "_law_fixed"]) fun _ _ _ _ _ _ us hl => match us, hl with | [_, _], _ => rfl
  have F__law_run := fun_mk (st := s__law_run) l__law_run c__law_run k__law_run
  have b__law_run := F__law_run.binds (ps := ["_law_text", "_law_at", "_law_signs_here"]) fun _ _ _ _ _ _ us hl => match us, hl with | [_, _, _], _ => rfl
  have F__law_stands := fun_mk (st := s__law_stands) l__law_stands c__law_stands k__law_stands
  have b__law_stands := F__law_stands.binds (ps := ["_law_text", "_law_at", "_law_fixed"]) fun _ _ _ _ _ _ us hl => match us, hl with | [_, _, _], _ => rfl
  have F__law_cut := fun_mk (st := s__law_cut) l__law_cut c__law_cut k__law_cut
  have b__law_cut := F__law_cut.binds (ps := ["_law_text", "_law_fixed"]) fun _ _ _ _ _ _ us hl => match us, hl with | [_, _], _ => rfl
  have F_run_of := fun_mk (st := s_run_of) l_run_of c_run_of k_run_of
  have b_run_of := F_run_of.binds (ps := ["text", "at", "signs"]) fun _ _ _ _ _ _ us hl => match us, hl with | [_, _, _], _ => rfl
  have F_quote_at := fun_mk (st := s_quote_at) l_quote_at c_quote_at k_quote_at
  have b_quote_at := F_quote_at.binds (ps := ["text", "at"]) fun _ _ _ _ _ _ us hl => match us, hl with | [_, _], _ => rfl
  have F_kind_of := fun_mk (st := s_kind_of) l_kind_of c_kind_of k_kind_of
  have b_kind_of := F_kind_of.binds (ps := ["word"]) fun _ _ _ _ _ _ us hl => match us, hl with | [_], _ => rfl
  have F_word_at := fun_mk (st := s_word_at) l_word_at c_word_at k_word_at
  have b_word_at := F_word_at.binds (ps := ["text", "at", "fixed"]) fun _ _ _ _ _ _ us hl => match us, hl with | [_, _, _], _ => rfl
  have F_cut := fun_mk (st := s_cut) l_cut c_cut k_cut
  have b_cut := F_cut.binds (ps := ["text", "fixed"]) fun _ _ _ _ _ _ us hl => match us, hl with | [_, _], _ => rfl
  have F__law_told := fun_mk (st := s__law_told) l__law_told c__law_told k__law_told
  have b__law_told := F__law_told.binds (ps := ["_law_text", "_law_fixed"]) fun _ _ _ _ _ _ us hl => match us, hl with | [_, _], _ => rfl
  have F__law_alike := fun_mk (st := s__law_alike) l__law_alike c__law_alike k__law_alike
  have b__law_alike := F__law_alike.binds (ps := ["_law_found", "_law_due"]) fun _ _ _ _ _ _ us hl => match us, hl with | [_, _], _ => rfl
  have F_law := fun_mk (st := s_law) l_law c_law k_law
  have b_law := F_law.binds (ps := ["_law_script"]) fun _ _ _ _ _ _ us hl => match us, hl with | [_], _ => rfl
  refine ⟨PySem.W.fnOf "law" "law" (defArgs s_law) (defBody s_law) (defScope s_law) .none kV_law dc_law pm_law an_law cd_law ct_law, fun s v => .of_eq rfl, fun base _ _ => ?_⟩
  have xi_NoWord : XI l.prog w K mg base 1 "NoWord" x_NoWord (spNW K x_NoWord) := ⟨oex_NoWord, PySem.W.mg_of X G n_NoWord, f_ini_NoWord, _, _, a_ini_NoWord, ti_NoWord, F_ini_NoWord.ok sc_ini_NoWord (ini_NoWord oex_NoWord nf_NoWord_place).1 (fun cdv A outer s H vs Q E hr h => ⟨_, p_ini_NoWord (PySem.W.mg_of X G n_GrammarError) rd_GrammarError gt_GrammarError fc_GrammarError (PySem.W.mg_none_of X G z_str) cdv A outer s H E, (ini_NoWord oex_NoWord nf_NoWord_place).2 vs H Q E h⟩), b_ini_NoWord⟩
  have G__law_cell : GD l.prog w K mg base 1 "_law_cell" ["_law_script", "_law_k"] (spD K R__law_cell) := gd_of (N := ["_law_script", "_law_k", "_law_cell_here", "_law_more"]) (ps := ["_law_script", "_law_k"]) (k := 0) (R := R__law_cell) F__law_cell (PySem.W.mg_of X G a__law_cell) b__law_cell sc__law_cell len__law_cell (p__law_cell (PySem.W.mg_none_of X G z_len)) (h__law_cell)
  have G__law_signs : GD l.prog w K mg base 1 "_law_signs" [] (spD K R__law_signs) := gd_of (N := []) (ps := []) (k := 0) (R := R__law_signs) F__law_signs (PySem.W.mg_of X G a__law_signs) b__law_signs sc__law_signs len__law_signs (p__law_signs) (h__law_signs)
  have G__law_fixed_by : GD l.prog w K mg base 2 "_law_fixed_by" ["_law_cell_here"] (spD K R__law_fixed_by) := gd_of (N := ["_law_cell_here", "_law_letters", "_law_usual", "_law_step", "_law_k"]) (ps := ["_law_cell_here"]) (k := 1) (R := R__law_fixed_by) F__law_fixed_by (PySem.W.mg_of X G a__law_fixed_by) b__law_fixed_by sc__law_fixed_by len__law_fixed_by (p__law_fixed_by (G__law_signs.mono (by decide)) (PySem.W.mg_none_of X G z_range)) (h__law_fixed_by)
  have G__law_piece : GD l.prog w K mg base 1 "_law_piece" ["_law_cell_here", "_law_fixed"] (spD K R__law_piece) := gd_of (N := ["_law_cell_here", "_law_fixed", "_law_some"]) (ps := ["_law_cell_here", "_law_fixed"]) (k := 0) (R := R__law_piece) F__law_piece (PySem.W.mg_of X G a__law_piece) b__law_piece sc__law_piece len__law_piece (p__law_piece (PySem.W.mg_none_of X G z_len)) (h__law_piece)
  have G__law_run : GD l.prog w K mg base 1 "_law_run" ["_law_text", "_law_at", "_law_signs_here"] (spD K R__law_run) := gd_of (N := ["_law_text", "_law_at", "_law_signs_here", "_law_end"]) (ps := ["_law_text", "_law_at", "_law_signs_here"]) (k := 0) (R := R__law_run) F__law_run (PySem.W.mg_of X G a__law_run) b__law_run sc__law_run len__law_run (p__law_run (PySem.W.mg_none_of X G z_len)) (h__law_run)
  have G__law_stands : GD l.prog w K mg base 2 "_law_stands" ["_law_text", "_law_at", "_law_fixed"] (spD K R__law_stands) := gd_of (N := ["_law_text", "_law_at", "_law_fixed", "_law_found", "_law_behind", "_law_word"]) (ps := ["_law_text", "_law_at", "_law_fixed"]) (k := 1) (R := R__law_stands) F__law_stands (PySem.W.mg_of X G a__law_stands) b__law_stands sc__law_stands len__law_stands (p__law_stands (G__law_run.mono (by decide)) (PySem.W.mg_none_of X G z_len)) (h__law_stands)
  have G__law_cut : GD l.prog w K mg base 3 "_law_cut" ["_law_text", "_law_fixed"] (spD K R__law_cut) := gd_of (N := ["_law_text", "_law_fixed", "_law_found", "_law_at", "_law_many", "_law_own", "_law_kind"]) (ps := ["_law_text", "_law_fixed"]) (k := 2) (R := R__law_cut) F__law_cut (PySem.W.mg_of X G a__law_cut) b__law_cut sc__law_cut len__law_cut (p__law_cut (G__law_stands.mono (by decide)) (PySem.W.mg_none_of X G z_len) (PySem.W.mg_none_of X G z_max)) (h__law_cut)
  have G_run_of : GD l.prog w K mg base 1 "run_of" ["text", "at", "signs"] (spD K R_run_of) := gd_of (N := ["text", "at", "signs", "end"]) (ps := ["text", "at", "signs"]) (k := 0) (R := R_run_of) F_run_of (PySem.W.mg_of X G a_run_of) b_run_of sc_run_of len_run_of (p_run_of (PySem.W.mg_none_of X G z_len)) (h_run_of)
  have G_quote_at : GD l.prog w K mg base 1 "quote_at" ["text", "at"] (spD K R_quote_at) := gd_of (N := ["text", "at", "end"]) (ps := ["text", "at"]) (k := 0) (R := R_quote_at) F_quote_at (PySem.W.mg_of X G a_quote_at) b_quote_at sc_quote_at len_quote_at (p_quote_at (PySem.W.mg_of X G n_MARK) rv_MARK) (h_quote_at hd_MARK)
  have G_kind_of : GD l.prog w K mg base 1 "kind_of" ["word"] (spD K R_kind_of) := gd_of (N := ["word"]) (ps := ["word"]) (k := 0) (R := R_kind_of) F_kind_of (PySem.W.mg_of X G a_kind_of) b_kind_of sc_kind_of len_kind_of (p_kind_of) (h_kind_of)
  have G_word_at : GD l.prog w K mg base 2 "word_at" ["text", "at", "fixed"] (spD K R_word_at) := gd_of (N := ["text", "at", "fixed", "found", "kind", "many", "word"]) (ps := ["text", "at", "fixed"]) (k := 1) (R := R_word_at) F_word_at (PySem.W.mg_of X G a_word_at) b_word_at sc_word_at len_word_at (p_word_at (G_run_of.mono (by decide)) (G_quote_at.mono (by decide)) (G_kind_of.mono (by decide)) (PySem.W.mg_of X G n_LETTERS) rv_LETTERS (PySem.W.mg_of X G n_FIGURES) rv_FIGURES (PySem.W.mg_none_of X G z_len)) (h_word_at hd_LETTERS hd_FIGURES)
  have G_cut : GX l.prog w K mg base 3 "cut" ["text", "fixed"] (spO K (R_cut x_NoWord)) := gx_of (N := ["text", "fixed", "found", "at", "kind", "many"]) (ps := ["text", "fixed"]) (k := 2) (R := (R_cut x_NoWord)) (T := fun W => T_cut K _ _ _ _ W) F_cut (PySem.W.mg_of X G a_cut) b_cut sc_cut len_cut (p_cut (G_word_at.mono (by decide)) (PySem.W.mg_of X G n_BETWEEN) rv_BETWEEN xi_NoWord (by decide) (PySem.W.mg_none_of X G z_len)) (h_cut hd_BETWEEN)
  have G__law_told : GX l.prog w K mg base 4 "_law_told" ["_law_text", "_law_fixed"] (spO K R__law_told) := gx_of (N := ["_law_text", "_law_fixed", "_law_found", "_law_refused", "e", "_law_good"]) (ps := ["_law_text", "_law_fixed"]) (k := 3) (R := R__law_told) (T := fun W => T__law_told K _ _ _ W) F__law_told (PySem.W.mg_of X G a__law_told) b__law_told sc__law_told len__law_told (p__law_told (G_cut.mono (by decide)) (PySem.W.mg_of X G n_NoWord) (PySem.W.mg_of X G n_GrammarError) (PySem.W.mg_none_of X G z_isinstance) (PySem.W.mg_none_of X G z_ValueError)) (h__law_told exm_NoWord_NoWord xf_NoWord nf_NoWord_place ec_NoWord ki_NoWord_GrammarError ki_NoWord_ValueError)
  have G__law_alike : GD l.prog w K mg base 1 "_law_alike" ["_law_found", "_law_due"] (spD K R__law_alike) := gd_of (N := ["_law_found", "_law_due", "_law_one", "_law_other"]) (ps := ["_law_found", "_law_due"]) (k := 0) (R := R__law_alike) F__law_alike (PySem.W.mg_of X G a__law_alike) b__law_alike sc__law_alike len__law_alike (p__law_alike (PySem.W.mg_none_of X G z_isinstance) (PySem.W.mg_none_of X G z_int) (PySem.W.mg_none_of X G z_bool) (PySem.W.mg_none_of X G z_list) (PySem.W.mg_none_of X G z_len) (PySem.W.mg_none_of X G z_zip) (PySem.W.mg_none_of X G z_tuple)) (h__law_alike)
  have LF : FnOk l.prog w K mg base CX0 5 _ _ ["_law_script"] (spD K R_law) := fn_d (N := ["_law_script", "_law_fixed", "_law_handed", "_law_pieces", "_law_text", "_law_due", "_law_found", "_law_k", "_law_part"]) (ps := ["_law_script"]) (k := 4) (R := R_law) F_law sc_law len_law (p_law (G__law_cell.mono (by decide)) (G__law_fixed_by.mono (by decide)) (G__law_piece.mono (by decide)) (G__law_cut.mono (by decide)) (G__law_told.mono (by decide)) (G__law_alike.mono (by decide)) (PySem.W.mg_none_of X G z_range) (PySem.W.mg_none_of X G z_list) (PySem.W.mg_none_of X G z_max) (PySem.W.mg_none_of X G z_min) (PySem.W.mg_none_of X G z_len) (PySem.W.mg_none_of X G z_isinstance) (PySem.W.mg_none_of X G z_tuple)) (h_law)
  exact LF.imp fun vs H Q E q => by
    obtain ⟨a, ns, rfl, hs, hn, q⟩ := q
    exact ⟨H, [.scr ns], .bl true, Evl.Ex.refl _, .cons (.scr hs) .nil, ⟨ns, rfl, hn, rfl⟩, fun v G1 H1 g r => by cases r; exact q _⟩
end K12
open PySem PySem.W PyProof.Rows
set_option maxHeartbeats 0 in
theorem PySem.Challenge.cw_readwright_k12_texts_cut_holds : PySem.Challenge.rw_readwright_k12_texts_cut.Holds := by
  w_on; o_law; k_head; (case hw => w_witness2)
  k_fill
  refine L2.walk_of (l := PySem.Challenge.rw_readwright_k12_texts_cut) (n := 63) (k := 5) (x := "_law_script") (CX := fun _ => L2.CX0) (sp := fun w => K12.spLaw _) rfl (by decide) rfl ⟨rfl, by decide, by decide⟩ (fun w h Y => PySem.W.kIn_of Y) ?F (fun _ _ a ns hl _ hS => ⟨a, ns, rfl, hS, hl, fun _ => rfl⟩) (fun _ _ _ _ _ h => h)
  case F =>
    intro w mg fa h KX G hmg
    refine' K12.all_mk KX G hmg ?n_NoWord ?sb_NoWord ?ty_NoWord ?hd_c_NoWord ?kp_NoWord ?ga_NoWord ?gg_NoWord ?nf_NoWord_place ?cc_NoWord ?cn ?ct ?mo_NoWord ?sub_NoWord_NoWord ?n_GrammarError ?rd_GrammarError ?gt_GrammarError ?fc_GrammarError ?xl_NoWord ?sa_NoWord ?a_ini_NoWord ?l_ini_NoWord ?c_ini_NoWord ?k_ini_NoWord ?ti_NoWord ?z_str ?ki_NoWord_GrammarError ?ki_NoWord_ValueError ?a__law_cell ?l__law_cell ?c__law_cell ?k__law_cell ?a__law_signs ?l__law_signs ?c__law_signs ?k__law_signs ?a__law_fixed_by ?l__law_fixed_by ?c__law_fixed_by ?k__law_fixed_by ?a__law_piece ?l__law_piece ?c__law_piece ?k__law_piece ?a__law_run ?l__law_run ?c__law_run ?k__law_run ?a__law_stands ?l__law_stands ?c__law_stands ?k__law_stands ?a__law_cut ?l__law_cut ?c__law_cut ?k__law_cut ?a_run_of ?l_run_of ?c_run_of ?k_run_of ?a_quote_at ?l_quote_at ?c_quote_at ?k_quote_at ?a_kind_of ?l_kind_of ?c_kind_of ?k_kind_of ?a_word_at ?l_word_at ?c_word_at ?k_word_at ?a_cut ?l_cut ?c_cut ?k_cut ?a__law_told ?l__law_told ?c__law_told ?k__law_told ?a__law_alike ?l__law_alike ?c__law_alike ?k__law_alike ?a_law ?l_law ?c_law ?k_law ?n_MARK ?n_LETTERS ?n_FIGURES ?n_BETWEEN ?z_len ?z_range ?z_max ?z_isinstance ?z_ValueError ?z_int ?z_bool ?z_list ?z_zip ?z_tuple ?z_min
    (case n_NoWord => first | k_is | rfl)
    (case sb_NoWord => first | k_is | rfl)
    (case ty_NoWord => first | k_is | rfl)
    (case hd_c_NoWord => first | k_is | rfl)
    (case kp_NoWord => first | k_is | rfl)
    (case ga_NoWord => first | k_is | rfl)
    (case gg_NoWord => first | k_is | rfl)
    (case nf_NoWord_place => first | k_is | rfl)
    (case cc_NoWord => first | k_is | rfl)
    (case cn => first | k_is | rfl)
    (case ct => first | k_is | rfl)
    (case mo_NoWord => first | k_is | rfl)
    (case sub_NoWord_NoWord => first | k_is | rfl)
    (case n_GrammarError => first | k_is | rfl)
    (case rd_GrammarError => first | k_is | rfl)
    (case gt_GrammarError => first | k_is | rfl)
    (case fc_GrammarError => first | k_is | rfl)
    (case xl_NoWord => first | k_is | rfl)
    (case sa_NoWord => first | k_is | rfl)
    (case a_ini_NoWord => first | k_is | rfl)
    (case l_ini_NoWord => first | k_is | rfl)
    (case c_ini_NoWord => first | k_is | rfl)
    (case k_ini_NoWord => first | k_is | rfl)
    (case ti_NoWord => first | k_is | rfl)
    (case z_str => first | k_is | rfl)
    (case ki_NoWord_GrammarError => first | k_is | rfl)
    (case ki_NoWord_ValueError => first | k_is | rfl)
    (case a__law_cell => first | k_is | rfl)
    (case l__law_cell => first | k_is | rfl)
    (case c__law_cell => first | k_is | rfl)
    (case k__law_cell => first | k_is | rfl)
    (case a__law_signs => first | k_is | rfl)
    (case l__law_signs => first | k_is | rfl)
    (case c__law_signs => first | k_is | rfl)
    (case k__law_signs => first | k_is | rfl)
    (case a__law_fixed_by => first | k_is | rfl)
    (case l__law_fixed_by => first | k_is | rfl)
    (case c__law_fixed_by => first | k_is | rfl)
    (case k__law_fixed_by => first | k_is | rfl)
    (case a__law_piece => first | k_is | rfl)
    (case l__law_piece => first | k_is | rfl)
    (case c__law_piece => first | k_is | rfl)
    (case k__law_piece => first | k_is | rfl)
    (case a__law_run => first | k_is | rfl)
    (case l__law_run => first | k_is | rfl)
    (case c__law_run => first | k_is | rfl)
    (case k__law_run => first | k_is | rfl)
    (case a__law_stands => first | k_is | rfl)
    (case l__law_stands => first | k_is | rfl)
    (case c__law_stands => first | k_is | rfl)
    (case k__law_stands => first | k_is | rfl)
    (case a__law_cut => first | k_is | rfl)
    (case l__law_cut => first | k_is | rfl)
    (case c__law_cut => first | k_is | rfl)
    (case k__law_cut => first | k_is | rfl)
    (case a_run_of => first | k_is | rfl)
    (case l_run_of => first | k_is | rfl)
    (case c_run_of => first | k_is | rfl)
    (case k_run_of => first | k_is | rfl)
    (case a_quote_at => first | k_is | rfl)
    (case l_quote_at => first | k_is | rfl)
    (case c_quote_at => first | k_is | rfl)
    (case k_quote_at => first | k_is | rfl)
    (case a_kind_of => first | k_is | rfl)
    (case l_kind_of => first | k_is | rfl)
    (case c_kind_of => first | k_is | rfl)
    (case k_kind_of => first | k_is | rfl)
    (case a_word_at => first | k_is | rfl)
    (case l_word_at => first | k_is | rfl)
    (case c_word_at => first | k_is | rfl)
    (case k_word_at => first | k_is | rfl)
    (case a_cut => first | k_is | rfl)
    (case l_cut => first | k_is | rfl)
    (case c_cut => first | k_is | rfl)
    (case k_cut => first | k_is | rfl)
    (case a__law_told => first | k_is | rfl)
    (case l__law_told => first | k_is | rfl)
    (case c__law_told => first | k_is | rfl)
    (case k__law_told => first | k_is | rfl)
    (case a__law_alike => first | k_is | rfl)
    (case l__law_alike => first | k_is | rfl)
    (case c__law_alike => first | k_is | rfl)
    (case k__law_alike => first | k_is | rfl)
    (case a_law => first | k_is | rfl)
    (case l_law => first | k_is | rfl)
    (case c_law => first | k_is | rfl)
    (case k_law => first | k_is | rfl)
    (case n_MARK => first | k_is | rfl)
    (case n_LETTERS => first | k_is | rfl)
    (case n_FIGURES => first | k_is | rfl)
    (case n_BETWEEN => first | k_is | rfl)
    (case z_len => first | k_is | rfl)
    (case z_range => first | k_is | rfl)
    (case z_max => first | k_is | rfl)
    (case z_isinstance => first | k_is | rfl)
    (case z_ValueError => first | k_is | rfl)
    (case z_int => first | k_is | rfl)
    (case z_bool => first | k_is | rfl)
    (case z_list => first | k_is | rfl)
    (case z_zip => first | k_is | rfl)
    (case z_tuple => first | k_is | rfl)
    (case z_min => first | k_is | rfl)
