import PyProof.Rows.All
import Wide.All
import OpenK.AllK
import Wide.FinOn
import HandS.ForMost
import HandS.IsInst
import HandS.Style
import HandS.TupAny
import HandS.TupLe
import HandS.Evl
import HandS.Steps
import HandS.Deep
import HandS.StrMore
import PySem.Challenge.RW_readwright_k11_fixed_words_and_kinds
set_option Elab.async false
set_option linter.all false
set_option maxRecDepth 100000
/-! A layer over HandS: what a reading yields told by plain data, the heap out of sight. -/
namespace DL
open PySem PySem.Spec PyProof.Rows L2
open Evl (Ex ex_l ex_t fresh_back)

/-! ### data -/
inductive Dat where
  | non | bl (b : Bool) | int (i : Int) | txt (cs : List Nat) | lst (xs : List Dat) | tup (xs : List Dat)
  | ins (C : Addr) (fs : List (Str × Dat)) | dct (kvs : List (Key × Dat)) | scr (ns : List Int) | ty (n : String) | cls (C : Addr)

mutual
inductive DR (K : PySem.W.Frag) (H : Hp) : V → Dat → Prop
  | non : DR K H .non .non
  | ty (n : String) : DR K H (.ty n) (.ty n)
  | cls (C : Addr) : DR K H (.ref C) (.cls C)
  | bl (b : Bool) : DR K H (.bl b) (.bl b)
  | int (i : Int) : DR K H (.int i) (.int i)
  | txt (cs : List Nat) : DR K H (.str ⟨cs.toArray⟩) (.txt cs)
  | lst {a : Addr} {xs : List V} {ds : List Dat} : H a = some (.lst xs) → DRs K H xs ds → DR K H (.ref a) (.lst ds)
  | scr {a : Addr} {ns : List Int} : SqL K H a (ns.map V.int) → DR K H (.ref a) (.scr ns)
  | tup {a : Addr} {xs : List V} {ds : List Dat} : SqT K H a xs → DRs K H xs ds → DR K H (.ref a) (.tup ds)
  | ins {a C dx : Addr} {fs : List (Str × V)} {gs : List (Str × Dat)} : H a = some (.ins C dx fs) → DRf K H fs gs → DR K H (.ref a) (.ins C gs)
  | dct {a : Addr} {kvs : List (Key × V)} {es : List (Key × Dat)} : H a = some (.dK kvs) → DRk K H kvs es → DR K H (.ref a) (.dct es)
inductive DRs (K : PySem.W.Frag) (H : Hp) : List V → List Dat → Prop
  | nil : DRs K H [] []
  | cons {v : V} {vs : List V} {d : Dat} {ds : List Dat} : DR K H v d → DRs K H vs ds → DRs K H (v :: vs) (d :: ds)
inductive DRf (K : PySem.W.Frag) (H : Hp) : List (Str × V) → List (Str × Dat) → Prop
  | nil : DRf K H [] []
  | cons {x : Str} {v : V} {vs : List (Str × V)} {d : Dat} {ds : List (Str × Dat)} : DR K H v d → DRf K H vs ds → DRf K H ((x, v) :: vs) ((x, d) :: ds)
inductive DRk (K : PySem.W.Frag) (H : Hp) : List (Key × V) → List (Key × Dat) → Prop
  | nil : DRk K H [] []
  | cons {x : Key} {v : V} {vs : List (Key × V)} {d : Dat} {ds : List (Key × Dat)} : DR K H v d → DRk K H vs ds → DRk K H ((x, v) :: vs) ((x, d) :: ds)
end

section
variable {K : PySem.W.Frag} {H H' : Hp}
mutual
theorem DR.mono (e : Ex H H') : ∀ {v : V} {d : Dat}, DR K H v d → DR K H' v d
  | _, _, .non => .non
  | _, _, .ty n => .ty n
  | _, _, .cls n => .cls n
  | _, _, .bl b => .bl b
  | _, _, .int i => .int i
  | _, _, .txt cs => .txt cs
  | _, _, .lst h r => .lst (e _ _ h) (DRs.mono e r)
  | _, _, .scr h => .scr (ex_l e h)
  | _, _, .tup h r => .tup (ex_t e h) (DRs.mono e r)
  | _, _, .ins h r => .ins (e _ _ h) (DRf.mono e r)
  | _, _, .dct h r => .dct (e _ _ h) (DRk.mono e r)
theorem DRs.mono (e : Ex H H') : ∀ {v : List V} {d : List Dat}, DRs K H v d → DRs K H' v d
  | _, _, .nil => .nil
  | _, _, .cons h r => .cons (DR.mono e h) (DRs.mono e r)
theorem DRf.mono (e : Ex H H') : ∀ {v : List (Str × V)} {d : List (Str × Dat)}, DRf K H v d → DRf K H' v d
  | _, _, .nil => .nil
  | _, _, .cons h r => .cons (DR.mono e h) (DRf.mono e r)
theorem DRk.mono (e : Ex H H') : ∀ {v : List (Key × V)} {d : List (Key × Dat)}, DRk K H v d → DRk K H' v d
  | _, _, .nil => .nil
  | _, _, .cons h r => .cons (DR.mono e h) (DRk.mono e r)
end
theorem DRs.length : ∀ {vs : List V} {ds : List Dat}, DRs K H vs ds → vs.length = ds.length
  | _, _, .nil => rfl
  | _, _, .cons _ r => by rw [List.length_cons, List.length_cons, DRs.length r]
theorem DRs.get : ∀ {vs : List V} {ds : List Dat} {i : Nat} {v : V}, DRs K H vs ds → vs[i]? = some v → ∃ d, ds[i]? = some d ∧ DR K H v d
  | _, _, _, _, .nil, e => by simp at e
  | _, _, 0, _, .cons h _, e => by simp at e; subst e; exact ⟨_, rfl, h⟩
  | _, _, i + 1, v, .cons _ r, e => by
    obtain ⟨d, h1, h2⟩ := DRs.get (i := i) (v := v) r (by simpa using e)
    exact ⟨d, by simpa using h1, h2⟩
theorem DRs.at : ∀ {vs : List V} {ds : List Dat} {i : Nat} {d : Dat}, DRs K H vs ds → ds[i]? = some d → ∃ v, vs[i]? = some v ∧ DR K H v d
  | _, _, _, _, .nil, e => by simp at e
  | _, _, 0, _, .cons h _, e => by simp at e; subst e; exact ⟨_, rfl, h⟩
  | _, _, i + 1, v, .cons _ r, e => by
    obtain ⟨d, h1, h2⟩ := DRs.at (i := i) (d := v) r (by simpa using e)
    exact ⟨d, by simpa using h1, h2⟩
theorem DRs.append : ∀ {vs ws : List V} {ds es : List Dat}, DRs K H vs ds → DRs K H ws es → DRs K H (vs ++ ws) (ds ++ es)
  | _, _, _, _, .nil, s => s
  | _, _, _, _, .cons h r, s => .cons h (DRs.append r s)
theorem DRs.take : ∀ {vs : List V} {ds : List Dat} (n : Nat), DRs K H vs ds → DRs K H (vs.take n) (ds.take n)
  | _, _, 0, _ => .nil
  | _, _, _ + 1, .nil => .nil
  | _, _, n + 1, .cons h r => .cons h (DRs.take n r)
theorem DRs.drop : ∀ {vs : List V} {ds : List Dat} (n : Nat), DRs K H vs ds → DRs K H (vs.drop n) (ds.drop n)
  | _, _, 0, r => r
  | _, _, _ + 1, .nil => .nil
  | _, _, n + 1, .cons _ r => DRs.drop n r
theorem DRf.lookup : ∀ {fs : List (Str × V)} {gs : List (Str × Dat)} {f : Str} {d : Dat}, DRf K H fs gs → gs.lookup f = some d → ∃ v, fs.lookup f = some v ∧ DR K H v d
  | _, _, _, _, .nil, e => by simp at e
  | _, _, f, d, @DRf.cons _ _ x v vs d' ds h r, e => by
    rw [List.lookup_cons] at e ⊢
    cases q : (f == x) with
    | true => rw [q] at e; cases e; exact ⟨v, rfl, h⟩
    | false => rw [q] at e; exact DRf.lookup (f := f) (d := d) r e
theorem DRf.none : ∀ {fs : List (Str × V)} {gs : List (Str × Dat)} {f : Str}, DRf K H fs gs → gs.lookup f = none → fs.lookup f = none
  | _, _, _, .nil, e => rfl
  | _, _, f, @DRf.cons _ _ x v vs d' ds h r, e => by
    rw [List.lookup_cons] at e ⊢
    cases q : (f == x) with
    | true => rw [q] at e; cases e
    | false => rw [q] at e; exact DRf.none (f := f) r e
/-- lists of numbers, of truths, of texts -/
theorem DRs.ints : ∀ {vs : List V} {ns : List Int}, DRs K H vs (ns.map .int) → vs = ns.map V.int
  | _, [], .nil => rfl
  | _, n :: ns, .cons (.int _) r => by rw [DRs.ints r]; rfl
theorem DRs.bls : ∀ {vs : List V} {ns : List Bool}, DRs K H vs (ns.map .bl) → vs = ns.map V.bl
  | _, [], .nil => rfl
  | _, n :: ns, .cons (.bl _) r => by rw [DRs.bls r]; rfl
def strL (cs : List Nat) : Str := ⟨cs.toArray⟩
theorem DRs.txts : ∀ {vs : List V} {ns : List (List Nat)}, DRs K H vs (ns.map .txt) → vs = (ns.map strL).map V.str
  | _, [], .nil => rfl
  | _, n :: ns, .cons (.txt _) r => by rw [DRs.txts r]; rfl
theorem DRs.ofInts : ∀ (ns : List Int), DRs K H (ns.map V.int) (ns.map .int)
  | [] => .nil
  | n :: ns => .cons (.int n) (DRs.ofInts ns)
theorem DRs.ofTxts : ∀ (ns : List (List Nat)), DRs K H ((ns.map strL).map V.str) (ns.map .txt)
  | [] => .nil
  | n :: ns => .cons (.txt n) (DRs.ofTxts ns)
theorem DR.ofStr (x : Str) : DR K H (.str x) (.txt x.cps.toList) := by
  have h : DR K H (.str ⟨x.cps.toList.toArray⟩) (.txt x.cps.toList) := .txt _
  rw [Array.toArray_toList] at h
  exact h
end
theorem strL_len (cs : List Nat) : (strL cs).length = cs.length := by simp [strL, Str.length]
theorem strL_cps (cs : List Nat) : (strL cs).cps.toList = cs := by simp [strL]
theorem strL_app (a b : List Nat) : strL a ++ strL b = strL (a ++ b) := by
  show (⟨a.toArray ++ b.toArray⟩ : Str) = ⟨(a ++ b).toArray⟩
  rw [List.append_toArray]
theorem strL_inj {a b : List Nat} (h : strL a = strL b) : a = b := by
  have := congrArg (fun s => s.cps.toList) h
  simpa [strL] using this

/-! ### the frozen part G of a heap H grows; what H has besides stays -/
structure Grow (G H G' H' : Hp) : Prop where
  g : Ex G G'
  s : Ex G' H'
  h : Ex H H'
  m : ∀ a, G a = none → H a ≠ none → G' a = none
theorem Grow.refl {G H : Hp} (e : Ex G H) : Grow G H G H := ⟨Evl.Ex.refl _, e, Evl.Ex.refl _, fun _ h _ => h⟩
theorem ex_some_ne {H H' : Hp} (e : Ex H H') {a : Addr} (h : H a ≠ none) : H' a ≠ none := by
  cases q : H a with
  | none => exact absurd q h
  | some o => rw [e a o q]; simp
theorem Grow.trans {G H G1 H1 G2 H2 : Hp} (a : Grow G H G1 H1) (b : Grow G1 H1 G2 H2) : Grow G H G2 H2 :=
  ⟨a.g.trans b.g, b.s, a.h.trans b.h, fun c h1 h2 => b.m c (a.m c h1 h2) (ex_some_ne a.h h2)⟩
theorem ex_upd2 {G H : Hp} {p : Addr} {o : HO} (e : Ex G H) : Ex (upd G p o) (upd H p o) := fun a u h => by
  by_cases q : a = p
  · subst q; rw [upd_same] at h ⊢; exact h
  · rw [upd_ne q] at h ⊢; exact e a u h
theorem Grow.new {G H : Hp} {p : Addr} {o : HO} (e : Ex G H) (hp : H p = none) : Grow G H (upd G p o) (upd H p o) := by
  have gp : G p = none := fresh_back e hp
  refine ⟨Evl.Ex.new gp, ex_upd2 e, Evl.Ex.new hp, fun a h1 h2 => ?_⟩
  have q : a ≠ p := fun z => by subst z; exact h2 hp
  rw [upd_ne q]; exact h1
/-- an object that is not frozen may be new -/
theorem Grow.newM {G H : Hp} {p : Addr} {o : HO} (e : Ex G H) (hp : H p = none) : Grow G H G (upd H p o) := by
  refine ⟨Evl.Ex.refl _, fun a u h => ?_, Evl.Ex.new hp, fun a h1 h2 => h1⟩
  exact Evl.Ex.new hp a u (e a u h)

/-! ### slots -/
inductive Sl where
  | no | dat (d : Dat) | own (ds : List Dat)
structure Sat (K : PySem.W.Frag) (G0 B0 : Hp) (ρ : List Sl) (σ : L2.St) (G H : Hp) : Prop where
  gr : Grow G0 B0 G H
  len : σ.length = ρ.length
  dat : ∀ (i : Nat) d, ρ[i]? = some (.dat d) → ∃ v, σ[i]? = some (some v) ∧ DR K G v d
  own : ∀ (i : Nat) ds, ρ[i]? = some (.own ds) → ∃ p vs, σ[i]? = some (some (.ref p)) ∧ G p = none ∧ B0 p = none ∧ H p = some (.lst vs) ∧ DRs K G vs ds
  sep : ∀ (i j : Nat) a b p, ρ[i]? = some (.own a) → ρ[j]? = some (.own b) → σ[i]? = some (some (.ref p)) → σ[j]? = some (some (.ref p)) → i = j

section
variable {K : PySem.W.Frag} {G0 B0 G H G' H' : Hp} {ρ : List Sl} {σ : L2.St}
theorem Sat.grow (S : Sat K G0 B0 ρ σ G H) (g : Grow G H G' H') : Sat K G0 B0 ρ σ G' H' := by
  refine ⟨S.gr.trans g, S.len, fun i d h => ?_, fun i ds h => ?_, S.sep⟩
  · obtain ⟨v, h1, h2⟩ := S.dat i d h
    exact ⟨v, h1, h2.mono g.g⟩
  · obtain ⟨p, vs, h1, h2, h3, h4, h5⟩ := S.own i ds h
    exact ⟨p, vs, h1, g.m p h2 (by rw [h4]; simp), h3, g.h _ _ h4, h5.mono g.g⟩
/-- a slot is given a datum -/
theorem Sat.set (S : Sat K G0 B0 ρ σ G H) {i : Nat} {v : V} {d : Dat} (r : DR K G v d) : Sat K G0 B0 (ρ.set i (.dat d)) (σ.set i (some v)) G H := by
  refine ⟨S.gr, by rw [List.length_set, List.length_set]; exact S.len, fun j e h => ?_, fun j ds h => ?_, fun j k a b p h1 h2 h3 h4 => ?_⟩
  · by_cases q : i = j
    · subst q
      rw [List.getElem?_set_self' ] at h
      rw [List.getElem?_set_self']
      cases z : ρ[i]? with
      | none => rw [z] at h; simp at h
      | some w =>
        rw [z] at h; simp at h; subst h
        have hl : i < σ.length := by rw [S.len]; exact (List.getElem?_eq_some_iff.mp z).1
        rw [List.getElem?_eq_getElem hl]
        exact ⟨v, rfl, r⟩
    · rw [List.getElem?_set_ne q] at h ⊢
      exact S.dat j e h
  · by_cases q : i = j
    · subst q
      rw [List.getElem?_set_self'] at h
      cases z : ρ[i]? with
      | none => rw [z] at h; simp at h
      | some w => rw [z] at h; simp at h
    · rw [List.getElem?_set_ne q] at h ⊢
      exact S.own j ds h
  · have qj : i ≠ j := fun q => by
      subst q
      rw [List.getElem?_set_self'] at h1
      cases z : ρ[i]? with
      | none => rw [z] at h1; simp at h1
      | some w => rw [z] at h1; simp at h1
    have qk : i ≠ k := fun q => by
      subst q
      rw [List.getElem?_set_self'] at h2
      cases z : ρ[i]? with
      | none => rw [z] at h2; simp at h2
      | some w => rw [z] at h2; simp at h2
    rw [List.getElem?_set_ne qj] at h1 h3
    rw [List.getElem?_set_ne qk] at h2 h4
    exact S.sep j k a b p h1 h2 h3 h4
/-- a slot is forgotten -/
theorem Sat.forget (S : Sat K G0 B0 ρ σ G H) {i : Nat} {o : Option V} : Sat K G0 B0 (ρ.set i .no) (σ.set i o) G H := by
  have key : ∀ (j : Nat) (s : Sl), s ≠ .no → (ρ.set i .no)[j]? = some s → i ≠ j ∧ ρ[j]? = some s := fun j s hs h => by
    by_cases q : i = j
    · subst q
      rw [List.getElem?_set_self'] at h
      cases z : ρ[i]? with
      | none => rw [z] at h; simp at h
      | some w => rw [z] at h; simp at h; exact absurd h.symm hs
    · rw [List.getElem?_set_ne q] at h
      exact ⟨q, h⟩
  refine ⟨S.gr, by rw [List.length_set, List.length_set]; exact S.len, fun j e h => ?_, fun j ds h => ?_, fun j k a b p h1 h2 h3 h4 => ?_⟩
  · obtain ⟨q, h⟩ := key j _ (by simp) h
    rw [List.getElem?_set_ne q]; exact S.dat j e h
  · obtain ⟨q, h⟩ := key j _ (by simp) h
    rw [List.getElem?_set_ne q]; exact S.own j ds h
  · obtain ⟨q1, h1⟩ := key j _ (by simp) h1
    obtain ⟨q2, h2⟩ := key k _ (by simp) h2
    rw [List.getElem?_set_ne q1] at h3
    rw [List.getElem?_set_ne q2] at h4
    exact S.sep j k a b p h1 h2 h3 h4
/-- a slot is given a new list of one's own -/
theorem Sat.setOwn (S : Sat K G0 B0 ρ σ G H) {i : Nat} {p : Addr} {vs : List V} {ds : List Dat} (hG : G p = none) (hB : B0 p = none) (hH : H p = some (.lst vs)) (r : DRs K G vs ds)
    (hn : ∀ (j : Nat) a, i ≠ j → ρ[j]? = some (.own a) → σ[j]? ≠ some (some (.ref p))) : Sat K G0 B0 (ρ.set i (.own ds)) (σ.set i (some (.ref p))) G H := by
  have key : ∀ (j : Nat) (s : Sl), (ρ.set i (.own ds))[j]? = some s → (i = j ∧ s = .own ds ∧ i < ρ.length) ∨ (i ≠ j ∧ ρ[j]? = some s) := fun j s h => by
    by_cases q : i = j
    · subst q
      rw [List.getElem?_set_self'] at h
      cases z : ρ[i]? with
      | none => rw [z] at h; simp at h
      | some w => rw [z] at h; simp at h; exact .inl ⟨rfl, h.symm, (List.getElem?_eq_some_iff.mp z).1⟩
    · rw [List.getElem?_set_ne q] at h
      exact .inr ⟨q, h⟩
  refine ⟨S.gr, by rw [List.length_set, List.length_set]; exact S.len, fun j e h => ?_, fun j es h => ?_, fun j k a b p' h1 h2 h3 h4 => ?_⟩
  · rcases key j _ h with ⟨_, z, _⟩ | ⟨q, h⟩
    · cases z
    · rw [List.getElem?_set_ne q]; exact S.dat j e h
  · rcases key j _ h with ⟨rfl, z, hl⟩ | ⟨q, h⟩
    · cases z
      rw [List.getElem?_set_self']
      rw [List.getElem?_eq_getElem (by rw [S.len]; exact hl)]
      exact ⟨p, vs, rfl, hG, hB, hH, r⟩
    · rw [List.getElem?_set_ne q]; exact S.own j es h
  · rcases key j _ h1 with ⟨rfl, z, hl⟩ | ⟨q, h1⟩
    · rcases key k _ h2 with ⟨rfl, z, hl⟩ | ⟨q, h2⟩
      · rfl
      · rw [List.getElem?_set_self', List.getElem?_eq_getElem (by rw [S.len]; exact hl)] at h3
        rw [List.getElem?_set_ne q] at h4
        have : p = p' := by simpa using h3
        subst this
        exact absurd h4 (hn k b q h2)
    · rcases key k _ h2 with ⟨rfl, z, hl⟩ | ⟨q2, h2⟩
      · rw [List.getElem?_set_self', List.getElem?_eq_getElem (by rw [S.len]; exact hl)] at h4
        rw [List.getElem?_set_ne q] at h3
        have : p = p' := by simpa using h4
        subst this
        exact absurd h3 (hn j a q h1)
      · rw [List.getElem?_set_ne q] at h3
        rw [List.getElem?_set_ne q2] at h4
        exact S.sep j k a b p' h1 h2 h3 h4
/-- one's own list is changed -/
theorem Sat.write (S : Sat K G0 B0 ρ σ G H) {i : Nat} {p : Addr} {vs : List V} {ds es : List Dat} (hρ : ρ[i]? = some (.own ds)) (hσ : σ[i]? = some (some (.ref p))) (r : DRs K G vs es) :
    Sat K G0 B0 (ρ.set i (.own es)) σ G (upd H p (.lst vs)) := by
  obtain ⟨p', ws, h1, h2, h3, h4, h5⟩ := S.own i ds hρ
  have e : p = p' := by rw [hσ] at h1; simpa using h1
  subst e
  have key : ∀ (j : Nat) (s : Sl), (ρ.set i (.own es))[j]? = some s → (i = j ∧ s = .own es) ∨ (i ≠ j ∧ ρ[j]? = some s) := fun j s h => by
    by_cases q : i = j
    · subst q
      rw [List.getElem?_set_self'] at h
      rw [hρ] at h; simp at h; exact .inl ⟨rfl, h.symm⟩
    · rw [List.getElem?_set_ne q] at h
      exact .inr ⟨q, h⟩
  refine ⟨⟨S.gr.g, S.gr.s.mut h2, S.gr.h.mut h3, S.gr.m⟩, by rw [List.length_set]; exact S.len, fun j e h => ?_, fun j es' h => ?_, fun j k a b p' g1 g2 g3 g4 => ?_⟩
  · rcases key j _ h with ⟨_, z⟩ | ⟨q, h⟩
    · cases z
    · exact S.dat j e h
  · rcases key j _ h with ⟨rfl, z⟩ | ⟨q, h⟩
    · cases z
      exact ⟨p, vs, hσ, h2, h3, upd_same, r⟩
    · obtain ⟨p2, ws2, k1, k2, k3, k4, k5⟩ := S.own j es' h
      refine ⟨p2, ws2, k1, k2, k3, ?_, k5⟩
      rw [upd_ne]
      · exact k4
      · intro z; subst z
        exact q (S.sep i j ds es' p2 hρ h hσ k1)
  · have o1 : ∃ a', ρ[j]? = some (.own a') := by
      rcases key j _ g1 with ⟨rfl, z⟩ | ⟨q, h⟩
      · exact ⟨_, hρ⟩
      · exact ⟨_, h⟩
    have o2 : ∃ a', ρ[k]? = some (.own a') := by
      rcases key k _ g2 with ⟨rfl, z⟩ | ⟨q, h⟩
      · exact ⟨_, hρ⟩
      · exact ⟨_, h⟩
    obtain ⟨a1, o1⟩ := o1
    obtain ⟨a2, o2⟩ := o2
    exact S.sep j k a1 a2 p' o1 o2 g3 g4
/-- one's own list is frozen -/
theorem Sat.freeze (S : Sat K G0 B0 ρ σ G H) {i : Nat} {ds : List Dat} (hρ : ρ[i]? = some (.own ds)) : ∃ p vs, σ[i]? = some (some (.ref p)) ∧ G p = none ∧ H p = some (.lst vs) ∧ B0 p = none ∧
    Sat K G0 B0 (ρ.set i (.dat (.lst ds))) σ (upd G p (.lst vs)) H := by
  obtain ⟨p, vs, h1, h2, h3, h4, h5⟩ := S.own i ds hρ
  have key : ∀ (j : Nat) (s : Sl), (ρ.set i (.dat (.lst ds)))[j]? = some s → (i = j ∧ s = .dat (.lst ds)) ∨ (i ≠ j ∧ ρ[j]? = some s) := fun j s h => by
    by_cases q : i = j
    · subst q
      rw [List.getElem?_set_self'] at h
      rw [hρ] at h; simp at h; exact .inl ⟨rfl, h.symm⟩
    · rw [List.getElem?_set_ne q] at h
      exact .inr ⟨q, h⟩
  have eg : Ex G (upd G p (.lst vs)) := Evl.Ex.new h2
  have es : Ex (upd G p (.lst vs)) H := fun a u h => by
    by_cases q : a = p
    · subst q; rw [upd_same] at h; cases h; exact h4
    · rw [upd_ne q] at h; exact S.gr.s a u h
  refine ⟨p, vs, h1, h2, h4, h3, ⟨S.gr.g.trans eg, es, S.gr.h, fun a k1 k2 => ?_⟩, by rw [List.length_set]; exact S.len, fun j e h => ?_, fun j es' h => ?_, fun j k a b p' g1 g2 g3 g4 => ?_⟩
  · have q : a ≠ p := fun z => by subst z; exact k2 h3
    rw [upd_ne q]; exact S.gr.m a k1 k2
  · rcases key j _ h with ⟨rfl, z⟩ | ⟨q, h⟩
    · cases z
      exact ⟨.ref p, h1, .lst upd_same (h5.mono eg)⟩
    · obtain ⟨v, k1, k2⟩ := S.dat j e h
      exact ⟨v, k1, k2.mono eg⟩
  · rcases key j _ h with ⟨rfl, z⟩ | ⟨q, h⟩
    · cases z
    · obtain ⟨p2, ws2, k1, k2, k3, k4, k5⟩ := S.own j es' h
      refine ⟨p2, ws2, k1, ?_, k3, k4, k5.mono eg⟩
      rw [upd_ne]
      · exact k2
      · intro z; subst z
        exact q (S.sep i j ds es' p2 hρ h h1 k1)
  · rcases key j _ g1 with ⟨rfl, z⟩ | ⟨q, g1⟩
    · cases z
    · rcases key k _ g2 with ⟨rfl, z⟩ | ⟨q, g2⟩
      · cases z
      · exact S.sep j k a b p' g1 g2 g3 g4
end

/-! ### what a reading yields -/
def Sem (K : PySem.W.Frag) (t : TE) (ρ : List Sl) (d : Dat) : Prop :=
  ∀ G0 B0 σ G H, Sat K G0 B0 ρ σ G H → ∀ Q : VK, (∀ v G' H', Grow G H G' H' → DR K G' v d → Q v H') → t σ H Q
def SemT (K : PySem.W.Frag) (t : TT) (ρ : List Sl) (b : Bool) : Prop :=
  ∀ G0 B0 σ G H, Sat K G0 B0 ρ σ G H → ∀ Q : Bool → Hp → Prop, (∀ G' H', Grow G H G' H' → Q b H') → t σ H Q
def SemA (K : PySem.W.Frag) (t : TA) (ρ : List Sl) (ds : List Dat) : Prop :=
  ∀ G0 B0 σ G H, Sat K G0 B0 ρ σ G H → ∀ Q : List V → Hp → Prop, (∀ vs G' H', Grow G H G' H' → DRs K G' vs ds → Q vs H') → t σ H Q
/-- a new list that nobody else knows -/
def SemN (K : PySem.W.Frag) (t : TE) (ρ : List Sl) (ds : List Dat) : Prop :=
  ∀ G0 B0 σ G H, Sat K G0 B0 ρ σ G H → ∀ Q : VK, (∀ p vs G' H', Grow G H G' H' → H p = none → G' p = none → H' p = some (.lst vs) → DRs K G' vs ds → Q (.ref p) H') → t σ H Q
def SemO (K : PySem.W.Frag) (t : TO) (ρ : List Sl) (o : Option Int) : Prop :=
  ∀ G0 B0 σ G H, Sat K G0 B0 ρ σ G H → ∀ Q : Option Int → Hp → Prop, (∀ G' H', Grow G H G' H' → Q o H') → t σ H Q
/-- by values: an operation, a call -/
def OpS (K : PySem.W.Frag) (r : R2) (a b c : Dat) : Prop :=
  ∀ x y G H, Ex G H → DR K G x a → DR K G y b → ∀ Q : VK, (∀ v G' H', Grow G H G' H' → DR K G' v c → Q v H') → r x y H Q
def UnS (K : PySem.W.Frag) (r : V → Hp → VK → Prop) (a c : Dat) : Prop :=
  ∀ x G H, Ex G H → DR K G x a → ∀ Q : VK, (∀ v G' H', Grow G H G' H' → DR K G' v c → Q v H') → r x H Q
def CallS (K : PySem.W.Frag) (r : List V → Hp → VK → Prop) (ds : List Dat) (c : Dat) : Prop :=
  ∀ xs G H, Ex G H → DRs K G xs ds → ∀ Q : VK, (∀ v G' H', Grow G H G' H' → DR K G' v c → Q v H') → r xs H Q
def MtS (K : PySem.W.Frag) (r : V → List V → Hp → VK → Prop) (a : Dat) (ds : List Dat) (c : Dat) : Prop :=
  ∀ x xs G H, Ex G H → DR K G x a → DRs K G xs ds → ∀ Q : VK, (∀ v G' H', Grow G H G' H' → DR K G' v c → Q v H') → r x xs H Q
def SlS (K : PySem.W.Frag) (r : V → Option Int → Option Int → Hp → VK → Prop) (a : Dat) (lo hi : Option Int) (c : Dat) : Prop :=
  ∀ x G H, Ex G H → DR K G x a → ∀ Q : VK, (∀ v G' H', Grow G H G' H' → DR K G' v c → Q v H') → r x lo hi H Q

section
variable {K : PySem.W.Frag} {ρ : List Sl} {t ta tb tc te : TE} {a b c d : Dat}
theorem s_var {i : Nat} (h : ρ[i]? = some (.dat d)) : Sem K (tVar i) ρ d := fun G0 B0 σ G H S Q q => by
  obtain ⟨v, h1, h2⟩ := S.dat i d h
  exact ⟨v, h1, q v G H (Grow.refl S.gr.s) h2⟩
theorem s_c {v : V} (h : ∀ G, DR K G v d) : Sem K (tC v) ρ d := fun G0 B0 σ G H S Q q => q v G H (Grow.refl S.gr.s) (h G)
theorem s_int {i : Int} : Sem K (tC (.int i)) ρ (.int i) := s_c fun _ => .int i
theorem s_bl {i : Bool} : Sem K (tC (.bl i)) ρ (.bl i) := s_c fun _ => .bl i
theorem s_non : Sem K (tC .non) ρ .non := s_c fun _ => .non
theorem s_str {x : Str} : Sem K (tC (.str x)) ρ (.txt x.cps.toList) := s_c fun _ => .ofStr x
theorem s_op {r : R2} (ha : Sem K ta ρ a) (hb : Sem K tb ρ b) (hr : OpS K r a b c) : Sem K (tOp r ta tb) ρ c := fun G0 B0 σ G H S Q q =>
  ha _ _ _ _ _ S _ fun x G1 H1 g1 rx => hb _ _ _ _ _ (S.grow g1) _ fun y G2 H2 g2 ry => hr x y G2 H2 g2.s (rx.mono g2.g) ry Q fun v G3 H3 g3 rv => q v G3 H3 ((g1.trans g2).trans g3) rv
theorem s_un {r : V → Hp → VK → Prop} (ha : Sem K ta ρ a) (hr : UnS K r a c) : Sem K (tUn r ta) ρ c := fun G0 B0 σ G H S Q q =>
  ha _ _ _ _ _ S _ fun x G1 H1 g1 rx => hr x G1 H1 g1.s rx Q fun v G3 H3 g3 rv => q v G3 H3 (g1.trans g3) rv
theorem s_is {e : Dat} (h : Sem K t ρ d) (z : d = e) : Sem K t ρ e := z ▸ h
theorem st_is {e e' : Bool} {t : TT} (h : SemT K t ρ e) (z : e = e') : SemT K t ρ e' := z ▸ h
theorem s_chain {r r' : R2} {k l : Bool} (ha : Sem K ta ρ a) (hb : Sem K tb ρ b) (hr : OpS K r a b (.bl k)) (hc : k = true → Sem K tc ρ c) (hr' : k = true → OpS K r' b c (.bl l)) : Sem K (tChain r r' ta tb tc) ρ (.bl (k && l)) := fun G0 B0 σ G H S Q q =>
  ha _ _ _ _ _ S _ fun x G1 H1 g1 rx => hb _ _ _ _ _ (S.grow g1) _ fun y G2 H2 g2 ry => hr x y G2 H2 g2.s (rx.mono g2.g) ry _ fun v G3 H3 g3 rv => by
    cases rv
    refine ⟨k, rfl, ?_⟩
    cases k with
    | false => exact q _ G3 H3 ((g1.trans g2).trans g3) (.bl _)
    | true =>
      rw [if_pos rfl]
      exact hc rfl _ _ _ _ _ (((S.grow g1).grow g2).grow g3) _ fun w G4 H4 g4 rw' => hr' rfl y w G4 H4 g4.s (ry.mono (g3.trans g4).g) rw' Q fun v G5 H5 g5 rv => q v G5 H5 ((((g1.trans g2).trans g3).trans g4).trans g5) rv
theorem s_andV {k : Bool} (ha : Sem K ta ρ (.bl k)) (hb : k = true → Sem K tb ρ d) : Sem K (tAndV ta tb) ρ (if k then d else .bl false) := fun G0 B0 σ G H S Q q =>
  ha _ _ _ _ _ S _ fun x G1 H1 g1 rx => by
    cases rx
    refine ⟨k, rfl, ?_⟩
    cases k with
    | false => exact q _ G1 H1 g1 (.bl _)
    | true => rw [if_pos rfl]; exact hb rfl _ _ _ _ _ (S.grow g1) _ fun y G2 H2 g2 ry => q _ _ _ (g1.trans g2) ry
theorem s_orV {k : Bool} (ha : Sem K ta ρ (.bl k)) (hb : k = false → Sem K tb ρ d) : Sem K (tOrV ta tb) ρ (if k then .bl true else d) := fun G0 B0 σ G H S Q q =>
  ha _ _ _ _ _ S _ fun x G1 H1 g1 rx => by
    cases rx
    refine ⟨k, rfl, ?_⟩
    cases k with
    | true => exact q _ G1 H1 g1 (.bl _)
    | false => rw [if_neg (by simp)]; exact hb rfl _ _ _ _ _ (S.grow g1) _ fun y G2 H2 g2 ry => q _ _ _ (g1.trans g2) ry
theorem s_andB {k l : Bool} (ha : Sem K ta ρ (.bl k)) (hb : k = true → Sem K tb ρ (.bl l)) : Sem K (tAndV ta tb) ρ (.bl (k && l)) := s_is (s_andV ha hb) (by cases k <;> rfl)
theorem s_orB {k l : Bool} (ha : Sem K ta ρ (.bl k)) (hb : k = false → Sem K tb ρ (.bl l)) : Sem K (tOrV ta tb) ρ (.bl (k || l)) := s_is (s_orV ha hb) (by cases k <;> rfl)
theorem s_notB {k : Bool} (ha : Sem K ta ρ (.bl k)) : Sem K (tNotV ta) ρ (.bl (!k)) := fun G0 B0 σ G H S Q q =>
  ha _ _ _ _ _ S _ fun x G1 H1 g1 rx => by
    cases rx
    exact ⟨k, rfl, q _ G1 H1 g1 (.bl _)⟩
theorem s_if {u : TT} {k : Bool} (h : SemT K u ρ k) (ha : k = true → Sem K ta ρ a) (hb : k = false → Sem K tb ρ b) : Sem K (tIf u ta tb) ρ (if k then a else b) := fun G0 B0 σ G H S Q q =>
  h _ _ _ _ _ S _ fun G1 H1 g1 => by
    cases k with
    | true => rw [if_pos rfl]; exact ha rfl _ _ _ _ _ (S.grow g1) _ fun y G2 H2 g2 ry => q _ _ _ (g1.trans g2) ry
    | false => rw [if_neg (by simp)]; exact hb rfl _ _ _ _ _ (S.grow g1) _ fun y G2 H2 g2 ry => q _ _ _ (g1.trans g2) ry
/-! tests -/
theorem st_and {u w : TT} {k l : Bool} (ha : SemT K u ρ k) (hb : k = true → SemT K w ρ l) : SemT K (tAnd u w) ρ (k && l) := fun G0 B0 σ G H S Q q =>
  ha _ _ _ _ _ S _ fun G1 H1 g1 => by
    cases k with
    | true => rw [if_pos rfl]; exact hb rfl _ _ _ _ _ (S.grow g1) _ fun G2 H2 g2 => q _ _ (g1.trans g2)
    | false => rw [if_neg (by simp)]; exact q _ _ g1
theorem st_or {u w : TT} {k l : Bool} (ha : SemT K u ρ k) (hb : k = false → SemT K w ρ l) : SemT K (tOr u w) ρ (k || l) := fun G0 B0 σ G H S Q q =>
  ha _ _ _ _ _ S _ fun G1 H1 g1 => by
    cases k with
    | true => rw [if_pos rfl]; exact q _ _ g1
    | false => rw [if_neg (by simp)]; exact hb rfl _ _ _ _ _ (S.grow g1) _ fun G2 H2 g2 => q _ _ (g1.trans g2)
theorem st_not {u : TT} {k : Bool} (ha : SemT K u ρ k) : SemT K (tNot u) ρ (!k) := fun G0 B0 σ G H S Q q =>
  ha _ _ _ _ _ S _ fun G1 H1 g1 => q _ _ g1
/-- a datum's truth -/
def truD : Dat → Bool
  | .non => false
  | .bl b => b
  | .int i => i != 0
  | .txt cs => !cs.isEmpty
  | .lst xs => !xs.isEmpty
  | .tup xs => !xs.isEmpty
  | .ins _ _ => true
  | .dct kvs => !kvs.isEmpty
  | .scr ns => !ns.isEmpty
  | .ty _ => true
  | .cls _ => true
def txtFits : Dat → Prop
  | .txt cs => cs.length ≤ sizeLine
  | .ins _ _ => False
  | .ty _ => False
  | .cls _ => False
  | _ => True
theorem DRs.isEmpty {H : Hp} {vs : List V} {ds : List Dat} (r : DRs K H vs ds) : (!vs.isEmpty) = !ds.isEmpty := by cases r <;> rfl
theorem DRk.isEmpty {H : Hp} {vs : List (Key × V)} {ds : List (Key × Dat)} (r : DRk K H vs ds) : (!vs.isEmpty) = !ds.isEmpty := by cases r <;> rfl
theorem st_tru (ha : Sem K ta ρ d) (hf : txtFits d) : SemT K (tTru K ta) ρ (truD d) := fun G0 B0 σ G H S Q q =>
  ha _ _ _ _ _ S _ fun x G1 H1 g1 rx => by
    refine ⟨truD d, ?_, q _ _ g1⟩
    cases rx with
    | non => rfl
    | ty n => exact hf.elim
    | cls n => exact hf.elim
    | bl b => rfl
    | int i => rfl
    | txt cs =>
      refine ⟨by
        have hf' : cs.length ≤ sizeLine := hf
        simpa [Str.length] using hf', ?_⟩
      cases cs <;> simp [truD, Str.length]
      omega
    | lst h r => exact .inl ⟨_, .inl (.inl (g1.s _ _ h)), r.isEmpty.symm⟩
    | @scr a ns h => exact .inl ⟨_, ex_l g1.s h, by cases ns <;> rfl⟩
    | tup h r => exact .inr (.inl ⟨_, ex_t g1.s h, r.isEmpty.symm⟩)
    | ins h r => exact hf.elim
    | dct h r => exact .inr (.inr ⟨_, g1.s _ _ h, r.isEmpty.symm⟩)
theorem st_bl {k : Bool} (ha : Sem K ta ρ (.bl k)) : SemT K (tTru K ta) ρ k := st_tru ha trivial
/-! arguments, displays, slices, calls -/
theorem sa_nil : SemA K tNil ρ [] := fun G0 B0 σ G H S Q q => q [] G H (Grow.refl S.gr.s) .nil
theorem sa_cons {tr : TA} {ds : List Dat} (ha : Sem K ta ρ a) (hr : SemA K tr ρ ds) : SemA K (tCons ta tr) ρ (a :: ds) := fun G0 B0 σ G H S Q q =>
  ha _ _ _ _ _ S _ fun x G1 H1 g1 rx => hr _ _ _ _ _ (S.grow g1) _ fun xs G2 H2 g2 rs => q _ _ _ (g1.trans g2) (.cons (rx.mono g2.g) rs)
theorem s_tup {u : TA} {ds : List Dat} (h : SemA K u ρ ds) (hl : ds.length ≤ sizeLine := by decide) : Sem K (tTup u) ρ (.tup ds) := fun G0 B0 σ G H S Q q =>
  h _ _ _ _ _ S _ fun xs G1 H1 g1 rs => ⟨by rw [rs.length]; exact hl, fun p hp => q _ _ _ (g1.trans (Grow.new g1.s hp)) (.tup (.inl (.inl upd_same)) (rs.mono (Evl.Ex.new (fresh_back g1.s hp))))⟩
theorem s_lst {u : TA} {ds : List Dat} (h : SemA K u ρ ds) (hl : ds.length ≤ sizeLine := by decide) : Sem K (tLst u) ρ (.lst ds) := fun G0 B0 σ G H S Q q =>
  h _ _ _ _ _ S _ fun xs G1 H1 g1 rs => ⟨by rw [rs.length]; exact hl, fun p hp => q _ _ _ (g1.trans (Grow.new g1.s hp)) (.lst upd_same (rs.mono (Evl.Ex.new (fresh_back g1.s hp))))⟩
theorem sn_lst {u : TA} {ds : List Dat} (h : SemA K u ρ ds) (hl : ds.length ≤ sizeLine := by decide) : SemN K (tLst u) ρ ds := fun G0 B0 σ G H S Q q =>
  h _ _ _ _ _ S _ fun xs G1 H1 g1 rs => ⟨by rw [rs.length]; exact hl, fun p hp => q p xs G1 _ (g1.trans (Grow.newM g1.s hp)) (fresh_back g1.h hp) (fresh_back g1.s hp) upd_same rs⟩
/-- a new list, told as a datum -/
theorem s_ofN {ds : List Dat} (h : SemN K t ρ ds) : Sem K t ρ (.lst ds) := fun G0 B0 σ G H S Q q =>
  h _ _ _ _ _ S _ fun p vs G1 H1 g1 hp hg h1 rs => by
    refine q (.ref p) (upd G1 p (.lst vs)) H1 ⟨g1.g.trans (Evl.Ex.new hg), fun a u e => ?_, g1.h, fun a e1 e2 => ?_⟩ (.lst upd_same (rs.mono (Evl.Ex.new hg)))
    · by_cases z : a = p
      · subst z; rw [upd_same] at e; cases e; exact h1
      · rw [upd_ne z] at e; exact g1.s a u e
    · have z : a ≠ p := fun z => by subst z; exact e2 hp
      rw [upd_ne z]; exact g1.m a e1 e2
theorem so_none : SemO K tNoPart ρ none := fun G0 B0 σ G H S Q q => q G H (Grow.refl S.gr.s)
theorem so_some {i : Int} (h : Sem K te ρ (.int i)) : SemO K (tPart te) ρ (some i) := fun G0 B0 σ G H S Q q => h _ _ _ _ _ S _ fun x G1 H1 g1 rx => by
  cases rx
  exact ⟨i, rfl, q _ _ g1⟩
theorem s_sl {r : V → Option Int → Option Int → Hp → VK → Prop} {tl th : TO} {lo hi : Option Int} (h : Sem K te ρ a) (h1 : SemO K tl ρ lo) (h2 : SemO K th ρ hi) (hr : SlS K r a lo hi c) : Sem K (tSl r te tl th) ρ c := fun G0 B0 σ G H S Q q =>
  h _ _ _ _ _ S _ fun x G1 H1 g1 rx => h1 _ _ _ _ _ (S.grow g1) _ fun G2 H2 g2 => h2 _ _ _ _ _ ((S.grow g1).grow g2) _ fun G3 H3 g3 =>
    hr x G3 H3 g3.s (rx.mono (g2.trans g3).g) Q fun v G4 H4 g4 rv => q v G4 H4 (((g1.trans g2).trans g3).trans g4) rv
theorem s_cb {r : List V → Hp → VK → Prop} {u : TA} {ds : List Dat} (h : SemA K u ρ ds) (hr : CallS K r ds c) : Sem K (tCB r u) ρ c := fun G0 B0 σ G H S Q q =>
  h _ _ _ _ _ S _ fun xs G1 H1 g1 rs => hr xs G1 H1 g1.s rs Q fun v G2 H2 g2 rv => q v G2 H2 (g1.trans g2) rv
theorem s_m0 {r : V → List V → Hp → VK → Prop} {cs : List Nat} (h : Sem K te ρ (.txt cs)) (hr : MtS K r (.txt cs) [] c) : Sem K (tM0 r te) ρ c := fun G0 B0 σ G H S Q q =>
  h _ _ _ _ _ S _ fun x G1 H1 g1 rx => ⟨by cases rx; exact ⟨_, rfl⟩, hr x [] G1 H1 g1.s rx .nil Q fun v G2 H2 g2 rv => q v G2 H2 (g1.trans g2) rv⟩
theorem s_m1 {r : V → List V → Hp → VK → Prop} {cs : List Nat} (h : Sem K ta ρ (.txt cs)) (h1 : Sem K te ρ d) (hr : MtS K r (.txt cs) [d] c) : Sem K (tM1 r ta te) ρ c := fun G0 B0 σ G H S Q q =>
  h _ _ _ _ _ S _ fun x G1 H1 g1 rx => ⟨by cases rx; exact ⟨_, rfl⟩, h1 _ _ _ _ _ (S.grow g1) _ fun y G2 H2 g2 ry =>
    hr x [y] G2 H2 g2.s (rx.mono g2.g) (.cons ry .nil) Q fun v G3 H3 g3 rv => q v G3 H3 ((g1.trans g2).trans g3) rv⟩
/-- a def's promise by data: R of what is handed in and what is told -/
def spD (K : PySem.W.Frag) (R : List Dat → Dat → Prop) : Sp := fun vs H Q _ => ∃ G ds d, Ex G H ∧ DRs K G vs ds ∧ R ds d ∧ ∀ v G' H', Grow G H G' H' → DR K G' v d → Q v H'
theorem s_call {R : List Dat → Dat → Prop} {E : XK} {u : TA} {ds : List Dat} (h : SemA K u ρ ds) (hr : R ds c) : Sem K (tCall (spD K R) [] E u) ρ c := fun G0 B0 σ G H S Q q =>
  h _ _ _ _ _ S _ fun xs G1 H1 g1 rs => ⟨G1, ds, c, g1.s, by rw [List.append_nil]; exact rs, hr, fun v G2 H2 g2 rv => q v G2 H2 (g1.trans g2) rv⟩
end
end DL

set_option Elab.async false
set_option linter.all false
set_option maxRecDepth 100000
namespace DL
open PySem PySem.Spec PyProof.Rows L2
open Evl (Ex ex_l ex_t fresh_back)

/-! ### operators for all data at once -/
def uAdd (K : PySem.W.Frag) : R2 := fun x y H Q => (∃ i j, x = .int i ∧ y = .int j ∧ Q (.int (i + j)) H) ∨ (∃ i j, x = .str i ∧ y = .str j ∧ i.length + j.length ≤ sizeLine ∧ Q (.str (i ++ j)) H) ∨ rCat x y H Q ∨ rCatA K x y H Q
def uSub : R2 := fun x y H Q => ∃ i j, x = .int i ∧ y = .int j ∧ Q (.int (i - j)) H
def uMul : R2 := fun x y H Q => (∃ i j, x = .int i ∧ y = .int j ∧ CMul i j ∧ Q (.int (i * j)) H) ∨ (∃ a n, x = .str a ∧ y = .int n ∧ MulOk a n ∧ Q (.str (Txt.mul a n)) H)
def uDiv : R2 := fun x y H Q => ∃ i j, x = .int i ∧ y = .int j ∧ CDiv i j ∧ Q (.int (i / j)) H
def uMod : R2 := fun x y H Q => ∃ i j, x = .int i ∧ y = .int j ∧ 0 < j ∧ Q (.int (i % j)) H
def uEq (K : PySem.W.Frag) : R2 := fun x y H Q => rEq x y H Q ∨ rEqD K x y H Q
def uNe (K : PySem.W.Frag) : R2 := fun x y H Q => rNe x y H Q ∨ rNeD K x y H Q
def uLt : R2 := fun x y H Q => (∃ i j, x = .int i ∧ y = .int j ∧ Q (.bl (decide (i < j))) H)
def uLe : R2 := fun x y H Q => (∃ i j, x = .int i ∧ y = .int j ∧ Q (.bl (decide (i ≤ j))) H)
def uGt : R2 := fun x y H Q => (∃ i j, x = .int i ∧ y = .int j ∧ Q (.bl (decide (j < i))) H)
def uGe : R2 := fun x y H Q => (∃ i j, x = .int i ∧ y = .int j ∧ Q (.bl (decide (j ≤ i))) H)
def uIn (K : PySem.W.Frag) : R2 := fun x y H Q => (∃ (c : Nat) (z : Str), x = .str ⟨#[c]⟩ ∧ y = .str z ∧ Q (.bl (decide (c ∈ z.cps.toList))) H) ∨ rIn K false x y H Q ∨ rInD K x y H Q
def uNotIn (K : PySem.W.Frag) : R2 := fun x y H Q => (∃ (c : Nat) (z : Str), x = .str ⟨#[c]⟩ ∧ y = .str z ∧ Q (.bl (!decide (c ∈ z.cps.toList))) H) ∨ rIn K true x y H Q ∨ rNotInD K x y H Q
def uIs : R2 := fun x y H Q => (y = .non ∧ Q (.bl (decide (x = .non))) H) ∨ (∃ a b : Bool, x = .bl a ∧ y = .bl b ∧ Q (.bl (decide (a = b))) H)
def uIsNot : R2 := fun x y H Q => (y = .non ∧ Q (.bl (!decide (x = .non))) H) ∨ (∃ a b : Bool, x = .bl a ∧ y = .bl b ∧ Q (.bl (!decide (a = b))) H)
def uSl (K : PySem.W.Frag) : V → Option Int → Option Int → Hp → VK → Prop := fun x lo hi H Q => rSlS x lo hi H Q ∨ rSlL K x lo hi H Q ∨ rSlA K x lo hi H Q
def uNeg : V → Hp → VK → Prop := fun x H Q => ∃ i, x = .int i ∧ Q (.int (-i)) H
section
variable {X : Cx} {K : PySem.W.Frag}
theorem op_mul_str : OpR X (binaryOp .Mult) (fun x y H Q => ∃ a n, x = .str a ∧ y = .int n ∧ MulOk a n ∧ Q (.str (Txt.mul a n)) H) := by
  intro pins s σ H x y v u Q I rx ry h
  obtain ⟨a, n, rfl, rfl, hok, q⟩ := h
  obtain ⟨t, rfl⟩ := rx
  obtain ⟨t', rfl⟩ := ry
  exact SB.mul hok fun t' k => ⟨.str (Txt.mul a n), H, I.tok _, ⟨_, rfl⟩, q⟩
theorem ou_add (hK : X.K = K) : OpR X (binaryOp .Add) (uAdd K) := by
  subst hK
  exact OpR.or op_add (OpR.or op_add_str (OpR.or op_cat op_catA))
theorem ou_sub : OpR X (binaryOp .Sub) uSub := op_sub
theorem ou_mul : OpR X (binaryOp .Mult) uMul := OpR.or op_mul op_mul_str
theorem ou_div : OpR X (binaryOp .FloorDiv) uDiv := op_fdiv
theorem ou_mod : OpR X (binaryOp .Mod) uMod := op_mod
theorem ou_eq (hK : X.K = K) (hu : X.A.units + 64 < cLine) : OpR X (compareOp .Eq) (uEq K) := by
  subst hK
  exact OpR.or op_eq (op_eqD hu)
theorem ou_ne (hK : X.K = K) (hu : X.A.units + 64 < cLine) : OpR X (compareOp .NotEq) (uNe K) := by
  subst hK
  exact OpR.or op_ne (op_neD hu)
theorem ou_lt : OpR X (compareOp .Lt) uLt := op_lt
theorem ou_le : OpR X (compareOp .LtE) uLe := op_le
theorem ou_gt : OpR X (compareOp .Gt) uGt := op_gt
theorem ou_ge : OpR X (compareOp .GtE) uGe := op_ge
theorem ou_in (hK : X.K = K) (hu : X.A.units + 65 < cLine) : OpR X (compareOp .In) (uIn K) := by
  subst hK
  exact OpR.or op_in_sign (OpR.or op_in_seq (op_inD hu))
theorem ou_notin (hK : X.K = K) (hu : X.A.units + 65 < cLine) : OpR X (compareOp .NotIn) (uNotIn K) := by
  subst hK
  exact OpR.or op_notIn_sign (OpR.or op_notIn_seq (op_notInD hu))
theorem ou_is : OpR X (compareOp .Is) uIs := OpR.or op_isN op_is_bl
theorem ou_isnot : OpR X (compareOp .IsNot) uIsNot := OpR.or op_notN op_isnot_bl
theorem ou_neg : UnR X (unaryOp .USub) uNeg := un_neg
theorem ou_ix (hK : X.K = K) : IxR X (rIx K) := by
  subst hK
  exact ix_seq
theorem ou_sl (hK : X.K = K) : SlR X (uSl K) := by
  subst hK
  exact SlR.or sl_str (SlR.or sl_list sl_tupA)
theorem pt_any {a : Expr} {ta : TE} (hK : X.K = K) (ha : PE X a ta) (he : ∀ whole, isTrue a X.env whole = (do let v ← whole; standAt a.pos; holding [v] (truthy v)) := by intro _; rfl) : PT X a (tTru K ta) := by
  subst hK
  exact pt_truth ha he
theorem room65 {k : Nat} {A : Around} (r : Room k A) : A.units + 65 < cLine := by have := r.un; omega
theorem room64 {k : Nat} {A : Around} (r : Room k A) : A.units + 64 < cLine := by have := r.un; omega
end

/-! ### the operators by data -/
section
variable {K : PySem.W.Frag}
theorem os_val {r : R2} {a b c : Dat} (h : ∀ x y G H, Ex G H → DR K G x a → DR K G y b → ∃ v, (∀ G, DR K G v c) ∧ ∀ Q : VK, Q v H → r x y H Q) : OpS K r a b c := fun x y G H e rx ry Q q => by
  obtain ⟨v, h1, h2⟩ := h x y G H e rx ry
  exact h2 Q (q v G H (Grow.refl e) (h1 G))
theorem os_addI {i j : Int} : OpS K (uAdd K) (.int i) (.int j) (.int (i + j)) := fun x y G H e rx ry Q q => by
  cases rx; cases ry
  exact .inl ⟨i, j, rfl, rfl, q _ _ _ (Grow.refl e) (.int _)⟩
theorem os_addT {a b : List Nat} (h : a.length + b.length ≤ sizeLine) : OpS K (uAdd K) (.txt a) (.txt b) (.txt (a ++ b)) := fun x y G H e rx ry Q q => by
  cases rx; cases ry
  refine .inr (.inl ⟨_, _, rfl, rfl, by rw [← strL, ← strL, strL_len, strL_len]; exact h, q _ _ _ (Grow.refl e) ?_⟩)
  have z := strL_app a b
  unfold strL at z
  rw [z]
  exact .txt _
theorem os_addL {a b : List Dat} (h : a.length + b.length ≤ sizeLine) : OpS K (uAdd K) (.lst a) (.lst b) (.lst (a ++ b)) := fun x y G H e rx ry Q q => by
  cases rx with
  | lst h1 r1 =>
    cases ry with
    | lst h2 r2 =>
      refine .inr (.inr (.inl ⟨_, _, _, _, rfl, rfl, e _ _ h1, e _ _ h2, by rw [r1.length, r2.length]; exact h, fun p hp => q _ _ _ (Grow.new e hp) (.lst upd_same ?_)⟩))
      exact (r1.append r2).mono (Evl.Ex.new (fresh_back e hp))
theorem os_addU {a b : List Dat} (h : a.length + b.length ≤ sizeLine) : OpS K (uAdd K) (.tup a) (.tup b) (.tup (a ++ b)) := fun x y G H e rx ry Q q => by
  cases rx with
  | tup h1 r1 =>
    cases ry with
    | tup h2 r2 =>
      refine .inr (.inr (.inr ⟨_, _, _, _, rfl, rfl, ex_t e h1, ex_t e h2, by rw [r1.length, r2.length]; exact h, fun z => ?_, fun z w => ?_, fun z w p hp => ?_⟩))
      · subst z
        cases r1
        exact q _ _ _ (Grow.refl e) (.tup h2 r2)
      · subst w
        cases r2
        rw [List.append_nil] at q
        exact q _ _ _ (Grow.refl e) (.tup h1 r1)
      · exact q _ _ _ (Grow.new e hp) (.tup (.inl (.inl upd_same)) ((r1.append r2).mono (Evl.Ex.new (fresh_back e hp))))
theorem os_sub {i j : Int} : OpS K uSub (.int i) (.int j) (.int (i - j)) := fun x y G H e rx ry Q q => by
  cases rx; cases ry
  exact ⟨i, j, rfl, rfl, q _ _ _ (Grow.refl e) (.int _)⟩
theorem os_mul {i j : Int} (h : CMul i j) : OpS K uMul (.int i) (.int j) (.int (i * j)) := fun x y G H e rx ry Q q => by
  cases rx; cases ry
  exact .inl ⟨i, j, rfl, rfl, h, q _ _ _ (Grow.refl e) (.int _)⟩
theorem os_div {i j : Int} (h : 0 < j ∧ j < 1073741824) : OpS K uDiv (.int i) (.int j) (.int (i / j)) := fun x y G H e rx ry Q q => by
  cases rx; cases ry
  exact ⟨i, j, rfl, rfl, h, q _ _ _ (Grow.refl e) (.int _)⟩
theorem os_mod {i j : Int} (h : 0 < j) : OpS K uMod (.int i) (.int j) (.int (i % j)) := fun x y G H e rx ry Q q => by
  cases rx; cases ry
  exact ⟨i, j, rfl, rfl, h, q _ _ _ (Grow.refl e) (.int _)⟩
theorem os_lt {i j : Int} : OpS K uLt (.int i) (.int j) (.bl (decide (i < j))) := fun x y G H e rx ry Q q => by
  cases rx; cases ry
  exact ⟨i, j, rfl, rfl, q _ _ _ (Grow.refl e) (.bl _)⟩
theorem os_le {i j : Int} : OpS K uLe (.int i) (.int j) (.bl (decide (i ≤ j))) := fun x y G H e rx ry Q q => by
  cases rx; cases ry
  exact ⟨i, j, rfl, rfl, q _ _ _ (Grow.refl e) (.bl _)⟩
theorem os_gt {i j : Int} : OpS K uGt (.int i) (.int j) (.bl (decide (j < i))) := fun x y G H e rx ry Q q => by
  cases rx; cases ry
  exact ⟨i, j, rfl, rfl, q _ _ _ (Grow.refl e) (.bl _)⟩
theorem os_ge {i j : Int} : OpS K uGe (.int i) (.int j) (.bl (decide (j ≤ i))) := fun x y G H e rx ry Q q => by
  cases rx; cases ry
  exact ⟨i, j, rfl, rfl, q _ _ _ (Grow.refl e) (.bl _)⟩
theorem us_neg {i : Int} : UnS K uNeg (.int i) (.int (-i)) := fun x G H e rx Q q => by
  cases rx
  exact ⟨i, rfl, q _ _ _ (Grow.refl e) (.int _)⟩
theorem mul_list (a : List Nat) : ∀ (n : Nat) (acc : List Nat), (List.replicate n a.toArray).foldl (· ++ ·) acc.toArray = (acc ++ (List.replicate n a).flatten).toArray
  | 0, acc => by simp
  | n + 1, acc => by
    rw [List.replicate_succ, List.foldl_cons, List.append_toArray, mul_list a n (acc ++ a), List.replicate_succ, List.flatten_cons, List.append_assoc]
/-- a text so many times -/
theorem os_mulT {a : List Nat} {n : Nat} (h : 2 ≤ n) (h2 : n ≤ 1000) (hz : a.length ≤ 1000) : OpS K uMul (.txt a) (.int n) (.txt (List.replicate n a).flatten) := fun x y G H e rx ry Q q => by
  cases rx; cases ry
  have hm : a.length * n ≤ 1000 * 1000 := Nat.mul_le_mul hz h2
  have e1 : (⟨a.toArray⟩ : Str).length = a.length := by simp [Str.length]
  refine .inr ⟨_, _, rfl, rfl, ⟨?_, fun _ _ => ?_, fun _ _ => ?_⟩, ?_⟩
  · rw [Bool.or_eq_false_iff]
    exact ⟨decide_eq_false (by omega), decide_eq_false (by omega)⟩
  · rw [e1]
    have : (1000 : Int) ≤ (2 ^ 63 - 1) / (n : Int) := by
      rw [Int.le_ediv_iff_mul_le (by omega)]
      omega
    omega
  · rw [e1]
    have : Builtin.Str.tooLong (a.length * (n : Int).toNat) = false := by
      unfold Builtin.Str.tooLong sizeLine
      rw [Int.toNat_natCast]
      exact decide_eq_false (by omega)
    exact this
  · have z : Txt.mul ⟨a.toArray⟩ (n : Int) = strL (List.replicate n a).flatten := by
      unfold Txt.mul
      rw [if_neg (by omega), e1]
      cases a with
      | nil =>
        rw [if_pos (by simp)]
        have : (List.replicate n ([] : List Nat)).flatten = [] := by
          rw [List.flatten_eq_nil_iff]
          intro l hl
          exact (List.mem_replicate.mp hl).2
        rw [this]; rfl
      | cons c r =>
        rw [if_neg]
        · have := mul_list (c :: r) n []
          rw [Int.toNat_natCast]
          show Str.mk _ = Str.mk _
          rw [List.nil_append] at this
          exact congrArg Str.mk this
        · simp
          omega
    rw [z]
    exact q _ _ _ (Grow.refl e) (.txt _)
/-! equality -/
theorem strL_eq (a b : List Nat) : decide ((V.str ⟨a.toArray⟩ : V) = .str ⟨b.toArray⟩) = decide (a = b) := by
  by_cases h : a = b
  · subst h; simp
  · rw [decide_eq_false h]
    refine decide_eq_false fun z => h ?_
    exact strL_inj (V.str.inj z)
theorem os_eqT {a b : List Nat} : OpS K (uEq K) (.txt a) (.txt b) (.bl (decide (a = b))) := fun x y G H e rx ry Q q => by
  cases rx; cases ry
  refine .inl ⟨rfl, ?_⟩
  rw [strL_eq]
  exact q _ _ _ (Grow.refl e) (.bl _)
theorem os_neT {a b : List Nat} : OpS K (uNe K) (.txt a) (.txt b) (.bl (!decide (a = b))) := fun x y G H e rx ry Q q => by
  cases rx; cases ry
  refine .inl ⟨rfl, ?_⟩
  rw [strL_eq]
  exact q _ _ _ (Grow.refl e) (.bl _)
theorem int_eq (a b : Int) : decide ((V.int a : V) = .int b) = decide (a = b) := by
  by_cases h : a = b
  · subst h; simp
  · rw [decide_eq_false h]
    exact decide_eq_false fun z => h (V.int.inj z)
theorem bl_eq (a b : Bool) : decide ((V.bl a : V) = .bl b) = decide (a = b) := by cases a <;> cases b <;> rfl
theorem os_eqI {a b : Int} : OpS K (uEq K) (.int a) (.int b) (.bl (decide (a = b))) := fun x y G H e rx ry Q q => by
  cases rx; cases ry
  refine .inl ⟨rfl, ?_⟩
  rw [int_eq]
  exact q _ _ _ (Grow.refl e) (.bl _)
theorem os_neI {a b : Int} : OpS K (uNe K) (.int a) (.int b) (.bl (!decide (a = b))) := fun x y G H e rx ry Q q => by
  cases rx; cases ry
  refine .inl ⟨rfl, ?_⟩
  rw [int_eq]
  exact q _ _ _ (Grow.refl e) (.bl _)
theorem os_eqB {a b : Bool} : OpS K (uEq K) (.bl a) (.bl b) (.bl (decide (a = b))) := fun x y G H e rx ry Q q => by
  cases rx; cases ry
  refine .inl ⟨rfl, ?_⟩
  rw [bl_eq]
  exact q _ _ _ (Grow.refl e) (.bl _)
theorem os_neB {a b : Bool} : OpS K (uNe K) (.bl a) (.bl b) (.bl (!decide (a = b))) := fun x y G H e rx ry Q q => by
  cases rx; cases ry
  refine .inl ⟨rfl, ?_⟩
  rw [bl_eq]
  exact q _ _ _ (Grow.refl e) (.bl _)
/-! deep equality -/
mutual
def toPy : Dat → PyData
  | .non => .none
  | .bl b => .bool b
  | .int i => .int i
  | .txt cs => .str (strL cs)
  | .lst xs => .list (toPys xs)
  | .tup xs => .tuple (toPys xs)
  | .scr ns => .list (ns.map .int)
  | .ins _ _ => .none
  | .dct _ => .none
  | .ty _ => .none
  | .cls _ => .none
def toPys : List Dat → List PyData
  | [] => []
  | x :: r => toPy x :: toPys r
end
/-! plain data: no objects, no dicts -/
mutual
def plainD : Dat → Bool
  | .non | .bl _ | .int _ | .txt _ | .scr _ => true
  | .lst xs => plainDs xs
  | .tup xs => plainDs xs
  | _ => false
def plainDs : List Dat → Bool
  | [] => true
  | x :: r => plainD x && plainDs r
end
theorem dpInts {H : Hp} : ∀ ns : List Int, DpAll K H (ns.map V.int) (ns.map .int)
  | [] => .nil
  | n :: r => .cons (.int n) (dpInts r)
mutual
theorem DR.dp {H : Hp} : ∀ {v : V} {d : Dat}, DR K H v d → plainD d = true → Dp K H v (toPy d)
  | _, _, .non, _ => .non
  | _, _, .bl b, _ => .bl b
  | _, _, .int i, _ => .int i
  | _, _, .txt cs, _ => .str _
  | _, _, .lst h r, p => .lst (.inl (.inl h)) (DRs.dp r (by simpa [plainD] using p))
  | _, _, .tup h r, p => .tup h (DRs.dp r (by simpa [plainD] using p))
  | _, _, @DR.scr _ _ a ns h, _ => .lst h (dpInts ns)
  | _, _, .ins _ _, p => by simp [plainD] at p
  | _, _, .dct _ _, p => by simp [plainD] at p
  | _, _, .ty _, p => by simp [plainD] at p
  | _, _, .cls _, p => by simp [plainD] at p
theorem DRs.dp {H : Hp} : ∀ {v : List V} {d : List Dat}, DRs K H v d → plainDs d = true → DpAll K H v (toPys d)
  | _, _, .nil, _ => .nil
  | _, _, .cons h r, p => by
    rw [plainDs, Bool.and_eq_true] at p
    exact .cons (DR.dp h p.1) (DRs.dp r p.2)
end
theorem os_eqD {a b : Dat} (pa : plainD a = true) (pb : plainD b = true) (sa : SeqAt.shaped (toPy a) = true) (sb : SeqAt.shaped (toPy b) = true) : OpS K (uEq K) a b (.bl (PyData.eqv (toPy a) (toPy b))) := fun x y G H e rx ry Q q =>
  .inr ⟨_, _, (rx.mono e).dp pa, (ry.mono e).dp pb, sa, sb, q _ _ _ (Grow.refl e) (.bl _)⟩
theorem os_neD {a b : Dat} (pa : plainD a = true) (pb : plainD b = true) (sa : SeqAt.shaped (toPy a) = true) (sb : SeqAt.shaped (toPy b) = true) : OpS K (uNe K) a b (.bl (!PyData.eqv (toPy a) (toPy b))) := fun x y G H e rx ry Q q =>
  .inr ⟨_, _, (rx.mono e).dp pa, (ry.mono e).dp pb, sa, sb, q _ _ _ (Grow.refl e) (.bl _)⟩
theorem lay_ints : ∀ ns : List Int, PyData.canLayAll0 (ns.map PyData.int) = true
  | [] => rfl
  | n :: r => by
    show (PyData.canLay0 (.int n) && PyData.canLayAll0 (r.map PyData.int)) = true
    rw [lay_ints r]; rfl
theorem depth_ints : ∀ ns : List Int, PyData.depthAll (ns.map PyData.int) = 0
  | [] => rfl
  | n :: r => by
    show max (PyData.depth (.int n)) (PyData.depthAll (r.map PyData.int)) = 0
    rw [depth_ints r]; rfl
theorem shaped_ints (ns : List Int) : SeqAt.shaped (.list (ns.map .int)) = true := by
  unfold SeqAt.shaped
  rw [Bool.and_eq_true]
  refine ⟨lay_ints ns, decide_eq_true ?_⟩
  show PyData.depthAll (ns.map PyData.int) + 1 ≤ 64
  rw [depth_ints]; decide
theorem os_neScr {ns : List Int} : OpS K (uNe K) (.scr ns) (.lst []) (.bl (!ns.isEmpty)) := by
  have h := os_neD (K := K) (a := .scr ns) (b := .lst []) rfl rfl (shaped_ints ns) (by decide +kernel)
  have e : PyData.eqv (toPy (.scr ns)) (toPy (.lst [])) = ns.isEmpty := by cases ns <;> rfl
  rw [e] at h
  exact h
/-! in -/
theorem os_inC {c : Nat} {b : List Nat} : OpS K (uIn K) (.txt [c]) (.txt b) (.bl (decide (c ∈ b))) := fun x y G H e rx ry Q q => by
  cases rx; cases ry
  exact .inl ⟨c, _, rfl, rfl, q _ _ _ (Grow.refl e) (.bl _)⟩
theorem os_notinC {c : Nat} {b : List Nat} : OpS K (uNotIn K) (.txt [c]) (.txt b) (.bl (!decide (c ∈ b))) := fun x y G H e rx ry Q q => by
  cases rx; cases ry
  exact .inl ⟨c, _, rfl, rfl, q _ _ _ (Grow.refl e) (.bl _)⟩
theorem flat_txts : ∀ bs : List (List Nat), ((bs.map strL).map V.str).all flatV = true
  | [] => rfl
  | b :: r => by
    show (true && ((r.map strL).map V.str).all flatV) = true
    rw [flat_txts r]; rfl
theorem inV_txts (a : List Nat) : ∀ bs : List (List Nat), inV (.str ⟨a.toArray⟩) ((bs.map strL).map V.str) = decide (a ∈ bs)
  | [] => rfl
  | b :: r => by
    have ih := inV_txts a r
    unfold inV at ih ⊢
    rw [List.map_cons, List.map_cons, List.any_cons, ih]
    have e : eqV (.str (strL b)) (.str ⟨a.toArray⟩) = decide (a = b) := by
      show (strL b == strL a) = decide (a = b)
      by_cases h : a = b
      · subst h; simp
      · rw [decide_eq_false h]
        exact beq_eq_false_iff_ne.mpr fun z => h (strL_inj z).symm
    rw [e]
    by_cases h : a = b
    · subst h; simp
    · simp [h]
theorem os_inTT {a : List Nat} {bs : List (List Nat)} : OpS K (uIn K) (.txt a) (.tup (bs.map .txt)) (.bl (decide (a ∈ bs))) := fun x y G H e rx ry Q q => by
  cases rx
  cases ry with
  | tup h r =>
    have z := r.txts
    subst z
    refine .inr (.inl ⟨_, _, rfl, .inr (ex_t e h), rfl, flat_txts bs, ?_⟩)
    rw [inV_txts]
    exact q _ _ _ (Grow.refl e) (.bl _)
theorem os_notinTT {a : List Nat} {bs : List (List Nat)} : OpS K (uNotIn K) (.txt a) (.tup (bs.map .txt)) (.bl (!decide (a ∈ bs))) := fun x y G H e rx ry Q q => by
  cases rx
  cases ry with
  | tup h r =>
    have z := r.txts
    subst z
    refine .inr (.inl ⟨_, _, rfl, .inr (ex_t e h), rfl, flat_txts bs, ?_⟩)
    rw [inV_txts]
    exact q _ _ _ (Grow.refl e) (.bl _)
theorem os_inTL {a : List Nat} {bs : List (List Nat)} : OpS K (uIn K) (.txt a) (.lst (bs.map .txt)) (.bl (decide (a ∈ bs))) := fun x y G H e rx ry Q q => by
  cases rx
  cases ry with
  | lst h r =>
    have z := r.txts
    subst z
    refine .inr (.inl ⟨_, _, rfl, .inl (.inl (.inl (e _ _ h))), rfl, flat_txts bs, ?_⟩)
    rw [inV_txts]
    exact q _ _ _ (Grow.refl e) (.bl _)
theorem os_notinTL {a : List Nat} {bs : List (List Nat)} : OpS K (uNotIn K) (.txt a) (.lst (bs.map .txt)) (.bl (!decide (a ∈ bs))) := fun x y G H e rx ry Q q => by
  cases rx
  cases ry with
  | lst h r =>
    have z := r.txts
    subst z
    refine .inr (.inl ⟨_, _, rfl, .inl (.inl (.inl (e _ _ h))), rfl, flat_txts bs, ?_⟩)
    rw [inV_txts]
    exact q _ _ _ (Grow.refl e) (.bl _)
/-! is -/
theorem os_isB {a b : Bool} : OpS K uIs (.bl a) (.bl b) (.bl (decide (a = b))) := fun x y G H e rx ry Q q => by
  cases rx; cases ry
  exact .inr ⟨a, b, rfl, rfl, q _ _ _ (Grow.refl e) (.bl _)⟩
theorem os_isnotB {a b : Bool} : OpS K uIsNot (.bl a) (.bl b) (.bl (!decide (a = b))) := fun x y G H e rx ry Q q => by
  cases rx; cases ry
  exact .inr ⟨a, b, rfl, rfl, q _ _ _ (Grow.refl e) (.bl _)⟩
def isNon : Dat → Bool
  | .non => true
  | _ => false
theorem DR.isNon {H : Hp} {v : V} {d : Dat} (r : DR K H v d) : decide (v = .non) = isNon d := by cases r <;> rfl
theorem os_isN {a : Dat} : OpS K uIs a .non (.bl (isNon a)) := fun x y G H e rx ry Q q => by
  cases ry
  refine .inl ⟨rfl, ?_⟩
  rw [rx.isNon]
  exact q _ _ _ (Grow.refl e) (.bl _)
theorem os_isnotN {a : Dat} : OpS K uIsNot a .non (.bl (!isNon a)) := fun x y G H e rx ry Q q => by
  cases ry
  refine .inl ⟨rfl, ?_⟩
  rw [rx.isNon]
  exact q _ _ _ (Grow.refl e) (.bl _)
/-! subscripts -/
theorem DRs.atI {H : Hp} {vs : List V} {ds : List Dat} {i : Int} {d : Dat} (r : DRs K H vs ds) (h : atI ds i = some d) : ∃ v, atI vs i = some v ∧ DR K H v d := by
  unfold L2.atI at h ⊢
  rw [r.length]
  cases z : ixN ds.length i with
  | none => rw [z] at h; cases h
  | some j => rw [z] at h; exact r.at h
theorem os_ixL {ds : List Dat} {i : Int} {d : Dat} (h : atI ds i = some d) : OpS K (rIx K) (.lst ds) (.int i) d := fun x y G H e rx ry Q q => by
  cases ry
  cases rx with
  | lst hl r =>
    obtain ⟨v, h1, h2⟩ := r.atI h
    exact .inl ⟨_, _, _, v, rfl, rfl, .inl (.inl (e _ _ hl)), h1, q _ _ _ (Grow.refl e) h2⟩
theorem os_ixU {ds : List Dat} {i : Int} {d : Dat} (h : atI ds i = some d) : OpS K (rIx K) (.tup ds) (.int i) d := fun x y G H e rx ry Q q => by
  cases ry
  cases rx with
  | tup hl r =>
    obtain ⟨v, h1, h2⟩ := r.atI h
    exact .inr (.inl ⟨_, _, _, v, rfl, rfl, ex_t e hl, h1, q _ _ _ (Grow.refl e) h2⟩)
theorem os_ixT {cs : List Nat} {i : Int} {c : Nat} (h : atI cs i = some c) (hz : cs.length ≤ sizeLine) : OpS K (rIx K) (.txt cs) (.int i) (.txt [c]) := fun x y G H e rx ry Q q => by
  cases ry
  cases rx
  exact .inr (.inr ⟨_, _, c, rfl, rfl, by rw [← strL, strL_len]; exact hz, h, q _ _ _ (Grow.refl e) (.txt [c])⟩)
theorem atI_map {α β : Type} (f : α → β) {xs : List α} {i : Int} {x : α} (h : atI xs i = some x) : atI (xs.map f) i = some (f x) := by
  unfold atI at h ⊢
  rw [List.length_map]
  cases z : ixN xs.length i with
  | none => rw [z] at h; cases h
  | some j =>
    rw [z] at h
    show (xs.map f)[j]? = some (f x)
    have h' : xs[j]? = some x := h
    rw [List.getElem?_map, h']
    rfl
theorem os_ixS {ns : List Int} {i : Int} {n : Int} (h : atI ns i = some n) : OpS K (rIx K) (.scr ns) (.int i) (.int n) := fun x y G H e rx ry Q q => by
  cases ry
  cases rx with
  | scr hl => exact .inl ⟨_, _, _, _, rfl, rfl, ex_l e hl, atI_map V.int h, q _ _ _ (Grow.refl e) (.int n)⟩
/-! slices -/
def cutL {α : Type} (xs : List α) (lo hi : Option Int) : List α := (xs.drop (HT.sIx xs.length 0 lo)).take (HT.sIx xs.length xs.length hi - HT.sIx xs.length 0 lo)
theorem ss_txt {cs : List Nat} {lo hi : Option Int} (hz : cs.length ≤ sizeLine) : SlS K (uSl K) (.txt cs) lo hi (.txt (cutL cs lo hi)) := fun x G H e rx Q q => by
  cases rx
  refine .inl ⟨_, rfl, by rw [← strL, strL_len]; exact hz, q _ _ _ (Grow.refl e) ?_⟩
  have z : cutS (strL cs) lo hi = strL (cutL cs lo hi) := by
    unfold cutS cutL
    rw [strL_len, strL_cps]
    rfl
  unfold strL at z
  rw [z]
  exact .txt _
theorem ss_lst {cs : List Dat} {lo hi : Option Int} : SlS K (uSl K) (.lst cs) lo hi (.lst (cutL cs lo hi)) := fun x G H e rx Q q => by
  cases rx with
  | lst h r =>
    refine .inr (.inl ⟨_, _, rfl, .inl (.inl (e _ _ h)), fun p hp => q _ _ _ (Grow.new e hp) (.lst upd_same ?_)⟩)
    unfold cutV cutL
    rw [r.length]
    exact ((r.drop _).take _).mono (Evl.Ex.new (fresh_back e hp))
theorem ss_tup {cs : List Dat} {lo hi : Option Int} : SlS K (uSl K) (.tup cs) lo hi (.tup (cutL cs lo hi)) := fun x G H e rx Q q => by
  cases rx with
  | tup h r =>
    refine .inr (.inr ⟨_, _, rfl, ex_t e h, fun z => ?_, fun z p hp => q _ _ _ (Grow.new e hp) (.tup (.inl (.inl upd_same)) ?_)⟩)
    · rw [r.length] at z
      have e2 : cutL cs lo hi = cs := by
        unfold cutL
        rw [z.1, z.2]
        simp
      rw [e2] at q
      exact q _ _ _ (Grow.refl e) (.tup h r)
    · unfold cutV cutL
      rw [r.length]
      exact ((r.drop _).take _).mono (Evl.Ex.new (fresh_back e hp))
/-! built-in functions -/
def uLen (K : PySem.W.Frag) : List V → Hp → VK → Prop := fun xs H Q => ∃ x n, xs = [x] ∧ LenV K x H n ∧ Q (.int n) H
theorem cu_len {X : Cx} (hK : X.K = K) : CallR X (.builtin "len") (uLen K) := by
  subst hK
  exact call_len
theorem cs_lenT {cs : List Nat} (hz : cs.length ≤ sizeLine) : CallS K (uLen K) [.txt cs] (.int cs.length) := fun xs G H e r Q q => by
  cases r with
  | cons h r =>
    cases r
    cases h
    exact ⟨_, cs.length, rfl, ⟨by rw [← strL, strL_len]; exact hz, by rw [← strL, strL_len]⟩, q _ _ _ (Grow.refl e) (.int _)⟩
theorem cs_lenL {cs : List Dat} : CallS K (uLen K) [.lst cs] (.int cs.length) := fun xs G H e r Q q => by
  cases r with
  | cons h r =>
    cases r
    cases h with
    | lst h r => exact ⟨_, cs.length, rfl, .inl ⟨_, .inl (.inl (e _ _ h)), r.length.symm⟩, q _ _ _ (Grow.refl e) (.int _)⟩
theorem cs_lenU {cs : List Dat} : CallS K (uLen K) [.tup cs] (.int cs.length) := fun xs G H e r Q q => by
  cases r with
  | cons h r =>
    cases r
    cases h with
    | tup h r => exact ⟨_, cs.length, rfl, .inr ⟨_, ex_t e h, r.length.symm⟩, q _ _ _ (Grow.refl e) (.int _)⟩
theorem cs_lenS {ns : List Int} : CallS K (uLen K) [.scr ns] (.int ns.length) := fun xs G H e r Q q => by
  cases r with
  | cons h r =>
    cases r
    cases h with
    | scr h => exact ⟨_, ns.length, rfl, .inl ⟨_, ex_l e h, (List.length_map _).symm⟩, q _ _ _ (Grow.refl e) (.int _)⟩
theorem cu_all {X : Cx} (hK : X.K = K) (hc : X.calm = true) : CallR X (.builtin "all") (rAll K) := by
  subst hK
  exact cr_all hc
theorem cs_all {bs : List Bool} : CallS K (rAll K) [.lst (bs.map .bl)] (.bl (bs.all id)) := fun xs G H e r Q q => by
  cases r with
  | cons h r =>
    cases r
    cases h with
    | lst h r =>
      have z := r.bls
      subst z
      exact ⟨_, bs, rfl, .inl (.inl (e _ _ h)), q _ _ _ (Grow.refl e) (.bl _)⟩
def uMax : List V → Hp → VK → Prop := fun xs H Q => ∃ i j, xs = [.int i, .int j] ∧ Q (.int (if j > i then j else i)) H
def uMin : List V → Hp → VK → Prop := fun xs H Q => ∃ i j, xs = [.int i, .int j] ∧ Q (.int (if j < i then j else i)) H
theorem cu_max {X : Cx} (hc : X.calm = true) : CallR X (.builtin "max") uMax := call_max2 hc
theorem cu_min {X : Cx} (hc : X.calm = true) : CallR X (.builtin "min") uMin := call_min2 hc
theorem cs_max {i j : Int} : CallS K uMax [.int i, .int j] (.int (max i j)) := fun xs G H e r Q q => by
  cases r with
  | cons h r =>
    cases r with
    | cons h2 r =>
      cases r; cases h; cases h2
      refine ⟨i, j, rfl, ?_⟩
      have z : (if j > i then j else i) = max i j := by omega
      rw [z]
      exact q _ _ _ (Grow.refl e) (.int _)
theorem cs_min {i j : Int} : CallS K uMin [.int i, .int j] (.int (min i j)) := fun xs G H e r Q q => by
  cases r with
  | cons h r =>
    cases r with
    | cons h2 r =>
      cases r; cases h; cases h2
      refine ⟨i, j, rfl, ?_⟩
      have z : (if j < i then j else i) = min i j := by omega
      rw [z]
      exact q _ _ _ (Grow.refl e) (.int _)
/-! isinstance with a built-in class -/
def tyD : Dat → Option String
  | .non => some "NoneType"
  | .bl _ => some "bool"
  | .int _ => some "int"
  | .txt _ => some "str"
  | .lst _ => some "list"
  | .tup _ => some "tuple"
  | .dct _ => some "dict"
  | _ => none
theorem cu_isi {X : Cx} (hK : X.K = K) : CallR X (.builtin "isinstance") (rIsi K) := by
  subst hK
  exact call_isi
theorem DR.ty' {H : Hp} {v : V} {d : Dat} {t : String} (r : DR K H v d) (h : tyD d = some t) : TyX K H v (.type t) := by
  cases r with
  | non => cases h; exact .base .non
  | bl b => cases h; exact .base (.bl b)
  | int i => cases h; exact .base (.int i)
  | txt cs => cases h; exact .base (.str _)
  | lst hl r => cases h; exact .base (.lst hl)
  | tup hl r =>
    cases h
    rcases hl with (hl | ⟨o, hl⟩) | hl
    · exact .base (.tup hl)
    · exact .fTuple hl
    · obtain ⟨o, its, n, hk, hc, _⟩ := hl
      exact .kTuple hk hc
  | ins hl r => cases h
  | dct hl r => cases h; exact .base (.dK hl)
  | scr hl => cases h
  | ty n => cases h
  | cls n => cases h
theorem cs_isi {d : Dat} {t n : String} {b : Bool} (h : tyD d = some t) (hk : kitB t n = some b) : CallS K (rIsi K) [d, .ty n] (.bl b) := fun xs G H e r Q q => by
  cases r with
  | cons h1 r =>
    cases r with
    | cons h2 r =>
      cases r; cases h2
      exact ⟨_, _, _, _, b, rfl, .ty n, (h1.mono e).ty' h, kit_ty hk, q _ _ _ (Grow.refl e) (.bl b)⟩
end
end DL

set_option Elab.async false
set_option linter.all false
set_option maxRecDepth 100000
namespace DL
open PySem PySem.Spec PyProof.Rows L2
open Evl (Ex ex_l ex_t fresh_back)

/-! ### what is walked -/
structure Walks (K : PySem.W.Frag) (J : It) (G : Hp) (ds : List Dat) : Prop where
  go : ∀ i G' H, Ex G G' → Ex G' H → i < ds.length → J.go i H
  yld : ∀ i G' H x H' d, Ex G G' → Ex G' H → ds[i]? = some d → J.yld i H x H' → ∃ G'', Grow G' H G'' H' ∧ DR K G'' x d
  stop : ∀ i G' H, Ex G G' → Ex G' H → ds.length ≤ i → J.stop i H
def SemI (K : PySem.W.Frag) (wi : TI) (ρ : List Sl) (ds : List Dat) : Prop :=
  ∀ G0 B0 σ G H, Sat K G0 B0 ρ σ G H → ∀ R : It → Hp → Prop, (∀ J G' H', Grow G H G' H' → Walks K J G' ds → R J H') → wi σ H R
/-- lists, tuples, texts alike -/
def iU (K : PySem.W.Frag) (te : TE) : TI := fun σ H R => te σ H fun x H1 => (∃ a, x = .ref a ∧ (∃ xs, SqL K H1 a xs) ∧ R (Itl K a) H1) ∨ (∃ a, x = .ref a ∧ (∃ xs, SqT K H1 a xs) ∧ R (Itt K a) H1) ∨ (∃ z, x = .str z ∧ R (Its z) H1)
theorem pi_u {X : Cx} {K : PySem.W.Frag} {tg l : Expr} {tl : TE} (hK : X.K = K) (hl : PE X l tl) : PI X tg l (iU K tl) := by
  subst hK
  refine ⟨fun pins s σ H R I h => ?_⟩
  refine thn (hl.run pins s σ H _ I h) fun v s1 ⟨x, H1, I1, r1, q1⟩ => ?_
  rcases q1 with ⟨a, rfl, ⟨xs, hq⟩, q⟩ | ⟨a, rfl, ⟨xs, hq⟩, q⟩ | ⟨z, rfl, q⟩
  · cases r1
    obtain ⟨its, rv, p, hz⟩ := I1.list hq
    exact wpAny_pyIter_list p.isList (pi_one (tk := s1.toks) I1 _ (turn_list a _) ⟨_, Heap.get?_push_size _ rfl, rfl, rfl⟩ q)
  · cases r1
    obtain ⟨its, rv, p, hz⟩ := I1.tuple hq
    exact wpAny_pyIter_tuple (show s1.heap.IsTuple a its.toArray from p) (pi_one (tk := s1.toks) I1 _ (turn_tuple a _) ⟨_, Heap.get?_push_size _ rfl, rfl, rfl⟩ q)
  · obtain ⟨t, rfl⟩ := r1
    cases ha : z.cps.all (· < 128)
    · exact wpAny_pyIter_wide ha (pi_one (tk := s1.toks) I1 _ (turn_str _ z t "str_iterator" (.inr rfl)) ⟨_, Heap.get?_push_size _ rfl, rfl, rfl⟩ q)
    · exact wpAny_pyIter_ascii ha (pi_one (tk := s1.toks) I1 _ (turn_str _ z t "str_ascii_iterator" (.inl rfl)) ⟨_, Heap.get?_push_size _ rfl, rfl, rfl⟩ q)

section
variable {K : PySem.W.Frag} {ρ : List Sl} {t ta tb tc te : TE} {a b c d : Dat}
theorem rd_inj {H : Hp} {p : Addr} {u w : HO} (nu : ∀ o x, u ≠ .frz o x) (nw : ∀ o x, w ≠ .frz o x) (h1 : H p = some u) (h2 : Rd H p w) : u = w := by
  rcases h2 with h2 | ⟨o, h2⟩
  · rw [h1] at h2; exact Option.some.inj h2
  · rw [h1] at h2; exact absurd (Option.some.inj h2) (nu _ _)
theorem walks_list {G : Hp} {p : Addr} {xs : List V} {ds : List Dat} (h : G p = some (.lst xs)) (r : DRs K G xs ds) : Walks K (Itl K p) G ds where
  go := fun i G' H e1 e2 hi => ⟨xs, xs[i]'(by rw [r.length]; exact hi), .inl (.inl (e2 _ _ (e1 _ _ h))), List.getElem?_eq_getElem _⟩
  yld := fun i G' H x H' d e1 e2 hd y => by
    obtain ⟨rfl, y⟩ := y
    obtain ⟨v, h1, h2⟩ := r.at hd
    have h3 := y xs (.inl (.inl (e2 _ _ (e1 _ _ h))))
    rw [h1] at h3
    cases h3
    exact ⟨G', Grow.refl e2, h2.mono e1⟩
  stop := fun i G' H e1 e2 hi => ⟨xs, .inl (.inl (e2 _ _ (e1 _ _ h))), by rw [r.length]; exact hi⟩
theorem walks_scr {G : Hp} {p : Addr} {ns : List Int} (h : SqL K G p (ns.map V.int)) : Walks K (Itl K p) G (ns.map .int) where
  go := fun i G' H e1 e2 hi => ⟨ns.map V.int, (ns.map V.int)[i]'(by rw [List.length_map] at hi ⊢; exact hi), ex_l e2 (ex_l e1 h), List.getElem?_eq_getElem _⟩
  yld := fun i G' H x H' d e1 e2 hd y => by
    obtain ⟨rfl, y⟩ := y
    have h3 := y _ (ex_l e2 (ex_l e1 h))
    rw [List.getElem?_map] at hd h3
    cases z : ns[i]? with
    | none => rw [z] at hd; cases hd
    | some n =>
      rw [z] at hd h3
      cases hd; cases h3
      exact ⟨G', Grow.refl e2, .int n⟩
  stop := fun i G' H e1 e2 hi => ⟨_, ex_l e2 (ex_l e1 h), by rw [List.length_map] at hi ⊢; exact hi⟩
theorem walks_tup {G : Hp} {p : Addr} {xs : List V} {ds : List Dat} (h : SqT K G p xs) (r : DRs K G xs ds) : Walks K (Itt K p) G ds where
  go := fun i G' H e1 e2 hi => ⟨xs, xs[i]'(by rw [r.length]; exact hi), ex_t e2 (ex_t e1 h), List.getElem?_eq_getElem _⟩
  yld := fun i G' H x H' d e1 e2 hd y => by
    obtain ⟨rfl, y⟩ := y
    obtain ⟨v, h1, h2⟩ := r.at hd
    have h3 := y xs (ex_t e2 (ex_t e1 h))
    rw [h1] at h3
    cases h3
    exact ⟨G', Grow.refl e2, h2.mono e1⟩
  stop := fun i G' H e1 e2 hi => ⟨xs, ex_t e2 (ex_t e1 h), by rw [r.length]; exact hi⟩
theorem walks_txt {G : Hp} (cs : List Nat) : Walks K (Its ⟨cs.toArray⟩) G (cs.map fun c => .txt [c]) where
  go := fun i G' H e1 e2 hi => by
    show i < cs.toArray.size
    rw [List.length_map] at hi
    simpa using hi
  yld := fun i G' H x H' d e1 e2 hd y => by
    obtain ⟨rfl, c, h1, rfl⟩ := y
    rw [List.getElem?_map] at hd
    have h2 : cs[i]? = some c := by simpa using h1
    rw [h2] at hd
    cases hd
    exact ⟨G', Grow.refl e2, .txt [c]⟩
  stop := fun i G' H e1 e2 hi => by
    show cs.toArray.size ≤ i
    rw [List.length_map] at hi
    simpa using hi
theorem walks_range {G : Hp} (lo : Int) (n : Nat) : Walks K (Itr lo n) G ((List.range n).map fun k => .int (lo + (k : Nat))) where
  go := fun i G' H e1 e2 hi => by
    rw [List.length_map, List.length_range] at hi
    exact hi
  yld := fun i G' H x H' d e1 e2 hd y => by
    obtain ⟨rfl, rfl⟩ := y
    have hi : i < n := by
      have := (List.getElem?_eq_some_iff.mp hd).1
      rwa [List.length_map, List.length_range] at this
    rw [List.getElem?_map, List.getElem?_range hi] at hd
    cases hd
    exact ⟨G', Grow.refl e2, .int _⟩
  stop := fun i G' H e1 e2 hi => by
    rw [List.length_map, List.length_range] at hi
    exact hi
def itemsD : Dat → Option (List Dat)
  | .lst ds => some ds
  | .tup ds => some ds
  | .txt cs => some (cs.map fun c => .txt [c])
  | .scr ns => some (ns.map .int)
  | _ => none
theorem si_u {ds : List Dat} (h : Sem K te ρ d) (hd : itemsD d = some ds) : SemI K (iU K te) ρ ds := fun G0 B0 σ G H S R q =>
  h _ _ _ _ _ S _ fun x G1 H1 g1 rx => by
    cases rx with
    | lst hl r => cases hd; exact .inl ⟨_, rfl, ⟨_, .inl (.inl (g1.s _ _ hl))⟩, q _ G1 H1 g1 (walks_list hl r)⟩
    | tup hl r => cases hd; exact .inr (.inl ⟨_, rfl, ⟨_, ex_t g1.s hl⟩, q _ G1 H1 g1 (walks_tup hl r)⟩)
    | txt cs => cases hd; exact .inr (.inr ⟨_, rfl, q _ G1 H1 g1 (walks_txt cs)⟩)
    | scr hl => cases hd; exact .inl ⟨_, rfl, ⟨_, ex_l g1.s hl⟩, q _ G1 H1 g1 (walks_scr hl)⟩
    | _ => cases hd
theorem si_range1 {ta : TA} {n : Nat} (h : SemA K ta ρ [.int n]) (hn : n ≤ 1000000000) : SemI K (iRng1 ta) ρ ((List.range n).map fun k => .int ((k : Nat) : Int)) := fun G0 B0 σ G H S R q =>
  h _ _ _ _ _ S _ fun xs G1 H1 g1 rs => by
    cases rs with
    | cons h1 rs =>
      cases rs; cases h1
      refine ⟨(n : Int), rfl, by omega, by omega, ?_⟩
      rw [Int.toNat_natCast]
      have w := walks_range (K := K) (G := G1) 0 n
      simp only [Int.zero_add] at w
      exact q _ G1 H1 g1 w
theorem si_range2 {ta : TA} {lo hi : Int} {n : Nat} (h : SemA K ta ρ [.int lo, .int hi]) (e : (hi - lo).toNat = n) (h1 : -1000000000 ≤ lo) (h2 : lo ≤ 1000000000) (h3 : -1000000000 ≤ hi) (h4 : hi ≤ 1000000000) : SemI K (iRng2 ta) ρ ((List.range n).map fun k => .int (lo + (k : Nat))) := fun G0 B0 σ G H S R q =>
  h _ _ _ _ _ S _ fun xs G1 H1 g1 rs => by
    cases rs with
    | cons k1 rs =>
      cases rs with
      | cons k2 rs =>
        cases rs; cases k1; cases k2
        refine ⟨lo, hi, rfl, ⟨by omega, by omega, by omega, by omega⟩, ?_⟩
        rw [e]
        exact q _ G1 H1 g1 (walks_range lo n)

/-! ### targets -/
def SemG (K : PySem.W.Frag) (g : TG) (d : Dat) (ρ ρ' : List Sl) : Prop :=
  ∀ G0 B0 σ G H v, Sat K G0 B0 ρ σ G H → DR K G v d → ∀ Q : L2.St → Hp → Prop, (∀ σ', Sat K G0 B0 ρ' σ' G H → Q σ' H) → g v σ H Q
def SemGs (K : PySem.W.Frag) (g : TGs) (ds : List Dat) (ρ ρ' : List Sl) : Prop :=
  ∀ G0 B0 σ G H vs, Sat K G0 B0 ρ σ G H → DRs K G vs ds → ∀ Q : L2.St → Hp → Prop, (∀ σ', Sat K G0 B0 ρ' σ' G H → Q σ' H) → g vs σ H Q
theorem sg_name {i : Nat} : SemG K (gName i) d ρ (ρ.set i (.dat d)) := fun G0 B0 σ G H v S r Q q => q _ (S.set r)
theorem sgs_nil : SemGs K gNil [] ρ ρ := fun G0 B0 σ G H v S r Q q => by cases r; exact ⟨rfl, q _ S⟩
theorem sgs_cons {g : TG} {gs : TGs} {ds : List Dat} {ρ1 ρ2 : List Sl} (h1 : SemG K g d ρ ρ1) (h2 : SemGs K gs ds ρ1 ρ2) : SemGs K (gCons g gs) (d :: ds) ρ ρ2 := fun G0 B0 σ G H v S r Q q => by
  cases r with
  | cons r1 r2 => exact ⟨_, _, rfl, h1 _ _ _ _ _ _ S r1 _ fun σ1 S1 => h2 _ _ _ _ _ _ S1 r2 _ q⟩
theorem sg_tup {gs : TGs} {ds : List Dat} {n : Nat} {ρ2 : List Sl} (h : SemGs K gs ds ρ ρ2) (hn : ds.length = n) : SemG K (gTup K n gs) (.tup ds) ρ ρ2 := fun G0 B0 σ G H v S r Q q => by
  cases r with
  | tup hl r => exact ⟨_, _, rfl, ex_t S.gr.s hl, by rw [r.length]; exact hn, h _ _ _ _ _ _ S r _ q⟩

/-! ### comprehensions -/
theorem Sat.forget1 {G0 B0 G H : Hp} {σ : L2.St} {i : Nat} (S : Sat K G0 B0 ρ σ G H) : Sat K G0 B0 (ρ.set i .no) (σ.set i none) G H := S.forget
theorem wipe_set (σ : L2.St) (j : Nat) (x : V) : wipe ((wipe σ [j]).set j (some x)) [j] = wipe σ [j] := by
  show (((σ.set j none).set j (some x)).set j none) = σ.set j none
  rw [List.set_set, List.set_set]
theorem sn_lc {wi : TI} {tt : TT} {j : Nat} {ds : List Dat} (f : Dat → Bool) (g : Dat → Dat) (hi : SemI K wi ρ ds) (hz : ds.length ≤ sizeLine)
    (ht : ∀ d, d ∈ ds → SemT K tt (ρ.set j (.dat d)) (f d)) (he : ∀ d, d ∈ ds → f d = true → Sem K te (ρ.set j (.dat d)) (g d)) :
    SemN K (tLc wi (gName j) tt te [j]) ρ ((ds.filter f).map g) := fun G0 B0 σ G H S Q q =>
  hi _ _ _ _ _ S _ fun J G1 H1 g1 W D hD => by
    have S1 := S.grow g1
    refine ⟨fun i m H' => m = ds.length - i ∧ i ≤ ds.length ∧ ∃ G' acc, Grow G1 H1 G' H' ∧ G' D = none ∧ H' D = some (.lst acc) ∧ DRs K G' acc (((ds.take i).filter f).map g), ⟨ds.length, by omega, Nat.zero_le _, G1, [], Grow.newM g1.s hD, fresh_back g1.s hD, upd_same, .nil⟩, ?_⟩
    rintro i m H' ⟨rfl, hi', G', acc, g2, n2, h2, r2⟩
    have hacc : acc.length ≤ i := by
      rw [r2.length, List.length_map]
      refine Nat.le_trans (List.length_filter_le _ _) ?_
      rw [List.length_take]; omega
    by_cases hlt : i < ds.length
    · have hd : ds[i]? = some ds[i] := List.getElem?_eq_getElem hlt
      have hmem : ds[i] ∈ ds := List.getElem_mem hlt
      refine .inr ⟨W.go i G' H' g2.g g2.s hlt, fun H'' => i + 1 ≤ ds.length ∧ ∃ G' acc, Grow G1 H1 G' H'' ∧ G' D = none ∧ H'' D = some (.lst acc) ∧ DRs K G' acc (((ds.take (i + 1)).filter f).map g), fun H'' p => ⟨ds.length - (i + 1), by omega, rfl, p⟩, fun x H'' hy => ?_⟩
      obtain ⟨G3, g3, rx⟩ := W.yld i G' H' x H'' ds[i] g2.g g2.s hd hy
      have S3 : Sat K G0 B0 (ρ.set j (.dat ds[i])) ((wipe σ [j]).set j (some x)) G3 H'' := by
        have z := (((S1.grow g2).grow g3).forget1 (i := j)).set (i := j) rx
        rw [List.set_set] at z
        exact z
      refine ⟨wipe_set σ j x, ht _ hmem _ _ _ _ _ S3 _ fun G4 H4 g4 => ?_⟩
      have n4 : G4 D = none := (g3.trans g4).m D n2 (by rw [h2]; simp)
      have h4 : H4 D = some (.lst acc) := (g3.trans g4).h _ _ h2
      have et : ds.take (i + 1) = ds.take i ++ [ds[i]] := by rw [List.take_add_one, hd]; rfl
      cases hf : f ds[i] with
      | false =>
        rw [if_neg (by simp)]
        refine ⟨hlt, G4, acc, (g2.trans g3).trans g4, n4, h4, ?_⟩
        rw [et, List.filter_append, List.filter_cons, hf]
        simp only [Bool.false_eq_true, if_false, List.filter_nil, List.append_nil]
        exact r2.mono (g3.trans g4).g
      | true =>
        rw [if_pos rfl]
        refine he _ hmem hf _ _ _ _ _ (S3.grow g4) _ fun y G5 H5 g5 ry => ?_
        have n5 : G5 D = none := g5.m D n4 (by rw [h4]; simp)
        have h5 : H5 D = some (.lst acc) := g5.h _ _ h4
        have gg := ((g2.trans g3).trans g4).trans g5
        refine ⟨acc, h5, by omega, hlt, G5, acc ++ [y], ⟨gg.g, gg.s.mut n5, gg.h.mut hD, gg.m⟩, n5, upd_same, ?_⟩
        rw [et, List.filter_append, List.filter_cons, hf]
        simp only [if_true, List.filter_nil, List.map_append, List.map_cons, List.map_nil]
        exact (r2.mono ((g3.trans g4).trans g5).g).append (.cons ry .nil)
    · have ei : i = ds.length := by omega
      subst ei
      rw [List.take_length] at r2
      exact .inl ⟨W.stop _ G' H' g2.g g2.s (Nat.le_refl _), q D acc G' H' (g1.trans g2) (fresh_back g1.h hD) n2 h2 r2⟩
theorem st_yes : SemT K tYes ρ true := fun G0 B0 σ G H S Q q => q G H (Grow.refl S.gr.s)
/-- without a test -/
theorem sn_lcA {wi : TI} {j : Nat} {ds : List Dat} (g : Dat → Dat) (hi : SemI K wi ρ ds) (hz : ds.length ≤ sizeLine) (he : ∀ d, d ∈ ds → Sem K te (ρ.set j (.dat d)) (g d)) :
    SemN K (tLc wi (gName j) tYes te [j]) ρ (ds.map g) := by
  have h := sn_lc (K := K) (ρ := ρ) (te := te) (tt := tYes) (j := j) (fun _ => true) g hi hz (fun _ _ => st_yes) (fun d hd _ => he d hd)
  rw [List.filter_eq_self.mpr (fun _ _ => rfl)] at h
  exact h

/-! ### statements -/
structure Post where
  nx : List Sl → Prop
  rt : Dat → Prop := fun _ => False
  bk : List Sl → Prop := fun _ => False
  ct : List Sl → Prop := fun _ => False
def SemS (K : PySem.W.Frag) (t : TS) (ρ : List Sl) (P : Post) : Prop :=
  ∀ G0 B0 σ G H (D : Ends), Sat K G0 B0 ρ σ G H → (∀ ρ' σ' G' H', P.nx ρ' → Sat K G0 B0 ρ' σ' G' H' → D.nx σ' H') → (∀ d v G' H', P.rt d → Grow G0 B0 G' H' → DR K G' v d → D.rt v H') →
    (∀ ρ' σ' G' H', P.bk ρ' → Sat K G0 B0 ρ' σ' G' H' → D.bk σ' H') → (∀ ρ' σ' G' H', P.ct ρ' → Sat K G0 B0 ρ' σ' G' H' → D.ct σ' H') → t D σ H
variable {P : Post} {u w : TS}
theorem ss_seq (h : SemS K u ρ { P with nx := fun ρ' => SemS K w ρ' P }) : SemS K (tSeq u w) ρ P := fun G0 B0 σ G H D S n r b c =>
  h G0 B0 σ G H { D with nx := w D } S (fun ρ' σ' G' H' p S' => p _ _ _ _ _ D S' n r b c) r b c
theorem ss_next (h : P.nx ρ) : SemS K tNext ρ P := fun G0 B0 σ G H D S n r b c => n _ _ _ _ h S
theorem ss_brk (h : P.bk ρ) : SemS K tBreak ρ P := fun G0 B0 σ G H D S n r b c => b _ _ _ _ h S
theorem ss_cont (h : P.ct ρ) : SemS K tCont ρ P := fun G0 B0 σ G H D S n r b c => c _ _ _ _ h S
theorem ss_asgG {g : TG} {ρ' : List Sl} (h : Sem K te ρ d) (hg : SemG K g d ρ ρ') (p : P.nx ρ') : SemS K (tAsg te g) ρ P := fun G0 B0 σ G H D S n r b c =>
  h _ _ _ _ _ S _ fun v G1 H1 g1 rv => hg _ _ _ _ _ _ (S.grow g1) rv _ fun σ' S' => n _ _ _ _ p S'
theorem ss_asg {i : Nat} (h : Sem K te ρ d) (p : P.nx (ρ.set i (.dat d))) : SemS K (tAsg te (gName i)) ρ P := ss_asgG h sg_name p
/-- x = a new list, which stays one's own -/
theorem ss_asgN {i : Nat} {ds : List Dat} (h : SemN K te ρ ds) (p : P.nx (ρ.set i (.own ds))) : SemS K (tAsg te (gName i)) ρ P := fun G0 B0 σ G H D S n r b c =>
  h _ _ _ _ _ S _ fun p' vs G1 H1 g1 hp hg h1 rs => by
    have S1 := S.grow g1
    refine n _ _ _ _ p (S1.setOwn hg (fresh_back S.gr.h hp) h1 rs fun j a hj hr hs => ?_)
    obtain ⟨p2, vs2, k1, k2, k3, k4, k5⟩ := S.own j a hr
    rw [hs] at k1
    have : p' = p2 := by simpa using k1
    subst this
    rw [hp] at k4; cases k4
theorem ss_ret (h : Sem K te ρ d) (p : P.rt d) : SemS K (tRet te) ρ P := fun G0 B0 σ G H D S n r b c =>
  h _ _ _ _ _ S _ fun v G1 H1 g1 rv => r _ _ _ _ p (S.gr.trans g1) rv
theorem ss_retN (p : P.rt .non) : SemS K tRetN ρ P := fun G0 B0 σ G H D S n r b c => r _ _ _ _ p S.gr .non
theorem ss_drop (h : Sem K te ρ d) (p : P.nx ρ) : SemS K (tDrop te) ρ P := fun G0 B0 σ G H D S n r b c =>
  h _ _ _ _ _ S _ fun v G1 H1 g1 rv => n _ _ _ _ p (S.grow g1)
theorem ss_if {c : TT} {k : Bool} (h : SemT K c ρ k) (h1 : k = true → SemS K u ρ P) (h2 : k = false → SemS K w ρ P) : SemS K (tIfS c u w) ρ P := fun G0 B0 σ G H D S n r b ct =>
  h _ _ _ _ _ S _ fun G1 H1 g1 => by
    cases k with
    | true => rw [if_pos rfl]; exact h1 rfl _ _ _ _ _ _ (S.grow g1) n r b ct
    | false => rw [if_neg (by simp)]; exact h2 rfl _ _ _ _ _ _ (S.grow g1) n r b ct
/-- one's own list is told to others -/
theorem ss_freeze (i : Nat) {ds : List Dat} (hi : ρ[i]? = some (.own ds)) (h : SemS K u (ρ.set i (.dat (.lst ds))) P) : SemS K u ρ P := fun G0 B0 σ G H D S n r b c => by
  obtain ⟨p, vs, _, _, _, _, S1⟩ := S.freeze hi
  exact h _ _ _ _ _ _ S1 n r b c
/-- xs.append(e) -/
theorem ss_app {i : Nat} {ds : List Dat} (hi : ρ[i]? = some (.own ds)) (h : Sem K te ρ d) (hz : ds.length < sizeLine) (p : P.nx (ρ.set i (.own (ds ++ [d])))) : SemS K (tDrop (tBM K "list" rAppend (tVar i) (tCons te tNil))) ρ P := fun G0 B0 σ G H D S n r b c => by
  obtain ⟨p0, vs0, k1, _, _, k4, _⟩ := S.own i ds hi
  refine ⟨.ref p0, k1, .inl ⟨rfl, _, .inl (.inl k4)⟩, h _ _ _ _ _ S _ fun v G1 H1 g1 rv => ?_⟩
  have S1 := S.grow g1
  obtain ⟨p1, vs, l1, l2, l3, l4, l5⟩ := S1.own i ds hi
  have : p0 = p1 := by rw [k1] at l1; simpa using l1
  subst this
  exact ⟨p0, vs, v, rfl, rfl, l4, by rw [l5.length]; exact hz, n _ _ _ _ p (S1.write hi l1 (l5.append (.cons rv .nil)))⟩
/-- n += e -/
theorem ss_augI {i : Nat} {a b : Int} {f : Int → Int → Int} (hi : ρ[i]? = some (.dat (.int a))) (h : Sem K te ρ (.int b)) (p : P.nx (ρ.set i (.dat (.int (f a b))))) : SemS K (tAug i te (ipI f)) ρ P := fun G0 B0 σ G H D S n r bk c => by
  obtain ⟨v, k1, k2⟩ := S.dat i _ hi
  refine ⟨v, k1, h _ _ _ _ _ S _ fun y G1 H1 g1 ry => ?_⟩
  cases k2; cases ry
  exact ⟨a, b, rfl, rfl, n _ _ _ _ p ((S.grow g1).set (.int _))⟩
theorem ss_for {wi : TI} {g : TG} {ds : List Dat} (hi : SemI K wi ρ ds) (I : Nat → List Sl → Prop) (h0 : I 0 ρ)
    (hs : ∀ i d ρ1, ds[i]? = some d → I i ρ1 → ∃ ρ2, SemG K g d ρ1 ρ2 ∧ SemS K u ρ2 { P with nx := I (i + 1), ct := I (i + 1), bk := P.nx }) (hd : ∀ ρ1, I ds.length ρ1 → P.nx ρ1) : SemS K (tFor wi g u) ρ P := fun G0 B0 σ G H D S n r b c =>
  hi _ _ _ _ _ S _ fun J G1 H1 g1 W => by
    refine ⟨fun i m σ' H' => m = ds.length - i ∧ i ≤ ds.length ∧ ∃ ρ1 G', Ex G1 G' ∧ I i ρ1 ∧ Sat K G0 B0 ρ1 σ' G' H', ⟨ds.length, by omega, Nat.zero_le _, ρ, G1, Evl.Ex.refl _, h0, S.grow g1⟩, ?_⟩
    rintro i m σ' H' ⟨rfl, hi', ρ1, G', e1, hI, S'⟩
    by_cases hlt : i < ds.length
    · have hd' : ds[i]? = some ds[i] := List.getElem?_eq_getElem hlt
      obtain ⟨ρ2, hg, hb⟩ := hs i ds[i] ρ1 hd' hI
      refine .inr ⟨W.go i G' H' e1 S'.gr.s hlt, fun σ2 H2 => i + 1 ≤ ds.length ∧ ∃ ρ1 G', Ex G1 G' ∧ I (i + 1) ρ1 ∧ Sat K G0 B0 ρ1 σ2 G' H2, fun σ2 H2 p => ⟨ds.length - (i + 1), by omega, rfl, p⟩, fun x H2 hy => ?_⟩
      obtain ⟨G3, g3, rx⟩ := W.yld i G' H' x H2 ds[i] e1 S'.gr.s hd' hy
      refine hg _ _ _ _ _ _ (S'.grow g3) rx _ fun σ3 S3 => ?_
      -- the frozen part at the loop's start stays frozen: G0 := the same with G1's objects
      have S4 : Sat K G3 B0 ρ2 σ3 G3 H2 := ⟨⟨Evl.Ex.refl _, S3.gr.s, S3.gr.h, fun a h _ => h⟩, S3.len, S3.dat, S3.own, S3.sep⟩
      have back : ∀ {ρ' σ' G' H'}, Sat K G3 B0 ρ' σ' G' H' → Sat K G0 B0 ρ' σ' G' H' := fun {ρ' σ' G' H'} S5 =>
        ⟨⟨S3.gr.g.trans S5.gr.g, S5.gr.s, S5.gr.h, fun a h1 h2 => S5.gr.m a (S3.gr.m a h1 h2) h2⟩, S5.len, S5.dat, S5.own, S5.sep⟩
      refine hb _ _ _ _ _ _ S4 (fun ρ' σ' G' H' p S5 => ⟨hlt, ρ', G', (e1.trans g3.g).trans S5.gr.g, p, back S5⟩) (fun d v G' H' p g5 rv => r d v G' H' p ⟨S3.gr.g.trans g5.g, g5.s, g5.h, fun a h1 h2 => g5.m a (S3.gr.m a h1 h2) h2⟩ rv)
        (fun ρ' σ' G' H' p S5 => n ρ' σ' G' H' p (back S5)) (fun ρ' σ' G' H' p S5 => ⟨hlt, ρ', G', (e1.trans g3.g).trans S5.gr.g, p, back S5⟩)
    · have ei : i = ds.length := by omega
      subst ei
      exact .inl ⟨W.stop _ G' H' e1 S'.gr.s (Nat.le_refl _), n _ _ _ _ (hd _ hI) S'⟩
theorem ss_while {c : TT} (I : Nat → List Sl → Prop) (m0 : Nat) (h0 : I m0 ρ)
    (hs : ∀ m ρ1, I m ρ1 → ∃ k, SemT K c ρ1 k ∧ (k = true → SemS K u ρ1 { P with nx := fun ρ2 => ∃ m', m' < m ∧ I m' ρ2, ct := fun ρ2 => ∃ m', m' < m ∧ I m' ρ2, bk := P.nx }) ∧ (k = false → P.nx ρ1)) : SemS K (tWhile c u) ρ P := fun G0 B0 σ G H D S n r b ct => by
  refine ⟨fun m σ' H' => ∃ ρ1 G', I m ρ1 ∧ Sat K G0 B0 ρ1 σ' G' H', ⟨m0, ρ, G, h0, S⟩, ?_⟩
  rintro m σ' H' ⟨ρ1, G', hI, S'⟩
  obtain ⟨k, hc, h1, h2⟩ := hs m ρ1 hI
  refine hc _ _ _ _ _ S' _ fun G1 H1 g1 => ?_
  cases k with
  | true =>
    rw [if_pos rfl]
    refine ⟨fun σ2 H2 => ∃ ρ2 G2, (∃ m', m' < m ∧ I m' ρ2) ∧ Sat K G0 B0 ρ2 σ2 G2 H2, ?_, ?_⟩
    · rintro σ2 H2 ⟨ρ2, G2, ⟨m', hm, hI'⟩, S2⟩
      exact ⟨m', hm, ρ2, G2, hI', S2⟩
    · exact h1 rfl _ _ _ _ _ _ (S'.grow g1) (fun ρ' σ' G' H' p S5 => ⟨ρ', G', p, S5⟩) r (fun ρ' σ' G' H' p S5 => n ρ' σ' G' H' p S5) (fun ρ' σ' G' H' p S5 => ⟨ρ', G', p, S5⟩)
  | false => rw [if_neg (by simp)]; exact n _ _ _ _ (h2 rfl) (S'.grow g1)
/-- what is reached is weakened -/
theorem ss_mono {P' : Post} (h : SemS K u ρ P') (h1 : ∀ ρ', P'.nx ρ' → P.nx ρ') (h2 : ∀ d, P'.rt d → P.rt d) (h3 : ∀ ρ', P'.bk ρ' → P.bk ρ') (h4 : ∀ ρ', P'.ct ρ' → P.ct ρ') : SemS K u ρ P := fun G0 B0 σ G H D S n r b c =>
  h _ _ _ _ _ _ S (fun ρ' σ' G' H' p => n _ _ _ _ (h1 _ p)) (fun d v G' H' p => r _ _ _ _ (h2 _ p)) (fun ρ' σ' G' H' p => b _ _ _ _ (h3 _ p)) (fun ρ' σ' G' H' p => c _ _ _ _ (h4 _ p))
end

/-! ### defs -/
/-- the slots at a def's start -/
def slots (n : Nat) (ds : List Dat) : List Sl := ds.map .dat ++ List.replicate (n - ds.length) .no
theorem sat_start {K : PySem.W.Frag} {N : List Str} {vs : List V} {ds : List Dat} {G H : Hp} (e : Ex G H) (r : DRs K G vs ds) : Sat K G H (slots N.length ds) (L2.start N vs) G H := by
  have hl := r.length
  refine ⟨Grow.refl e, ?_, fun i d h => ?_, fun i d h => ?_, fun i j a b p h1 h2 h3 h4 => ?_⟩
  · unfold slots L2.start
    simp [hl]
  · unfold slots at h
    unfold L2.start
    by_cases hi : i < ds.length
    · rw [List.getElem?_append_left (by simpa using hi), List.getElem?_map] at h
      cases z : ds[i]? with
      | none => rw [z] at h; cases h
      | some d' =>
        rw [z] at h
        cases h
        obtain ⟨v, h1, h2⟩ := r.at z
        refine ⟨v, ?_, h2⟩
        rw [List.getElem?_append_left (by simpa [hl] using hi), List.getElem?_map, h1]
        rfl
    · rw [List.getElem?_append_right (by simpa using hi)] at h
      rw [List.getElem?_replicate] at h
      split at h <;> cases h
  · unfold slots at h
    by_cases hi : i < ds.length
    · rw [List.getElem?_append_left (by simpa using hi), List.getElem?_map] at h
      cases z : ds[i]? with
      | none => rw [z] at h; cases h
      | some d' => rw [z] at h; cases h
    · rw [List.getElem?_append_right (by simpa using hi)] at h
      rw [List.getElem?_replicate] at h
      split at h <;> cases h
  · unfold slots at h1
    by_cases hi : i < ds.length
    · rw [List.getElem?_append_left (by simpa using hi), List.getElem?_map] at h1
      cases z : ds[i]? with
      | none => rw [z] at h1; cases h1
      | some d' => rw [z] at h1; cases h1
    · rw [List.getElem?_append_right (by simpa using hi)] at h1
      rw [List.getElem?_replicate] at h1
      split at h1 <;> cases h1
/-- a def of the module that keeps a promise -/
structure GD (P : Program) (w : World) (K : PySem.W.Frag) (mg : Str → Option Value) (base : Heap) (k : Nat) (x : Str) (ps : List Str) (sp : Sp) : Prop where
  ex : ∃ f fd, FnOk P w K mg base CX0 k f fd ps sp ∧ mg x = some (.ref f) ∧ PySem.W.keepIn K (.ref f) = true ∧ Binds K fd ps []
section
variable {X : Cx} {x : Str} {p pos : Pos} {e : Expr} {es : List Expr} {t : TA} {k : Nat} {ps : List Str} {sp : Sp}
theorem pe_gd (h : GD X.prog X.w X.K X.mg X.base k x ps sp) (hr : Room k X.A) (hg : Gl X x) (ha : PA X (e :: es) t) (hdb : (x == ("__debug__" : Str)) = false := by decide)
    (he : starEach (e :: es) X.env = (false, eval e X.env) :: starEach es X.env := by rfl) (hpl : (backTo pos (starEach es X.env)).any (·.1) = false := by rfl) : PE X (.Call (.Name x p) (e :: es) [] pos) (tCall sp [] E0 t) := by
  obtain ⟨f, fd, F, hm, hk, hb⟩ := h.ex
  exact pe_call F hr hg hm hk hb .nil pass0 ha hdb he hpl
theorem pe_gd0 (h : GD X.prog X.w X.K X.mg X.base k x ps sp) (hr : Room k X.A) (hg : Gl X x) (hdb : (x == ("__debug__" : Str)) = false := by decide) : PE X (.Call (.Name x p) [] [] pos) (tCall sp [] E0 tNil) := by
  obtain ⟨f, fd, F, hm, hk, hb⟩ := h.ex
  exact pe_call0 F hr hg hm hk hb .nil pass0 hdb
end
section
variable {P : Program} {w : World} {K : PySem.W.Frag} {mg : Str → Option Value} {base : Heap}
theorem GD.mono {j k : Nat} {x : Str} {ps : List Str} {sp : Sp} (h : GD P w K mg base j x ps sp) (hj : j ≤ k) : GD P w K mg base k x ps sp := by
  obtain ⟨f, fd, F, r⟩ := h.ex
  exact ⟨f, fd, F.mono hj, r⟩
/-- THE RULE for a def told by data: its reading T, that the body has it, what it yields -/
theorem fn_d {x qual : Str} {st : Stmt} {f : Addr} {fd : FuncData} {N ps : List Str} {k : Nat} {R : List Dat → Dat → Prop} {T : TS} (F : Fun K x qual st f fd) (S : FnScope N ps (defScope st))
    (hlen : ∀ ds d, R ds d → ds.length = ps.length)
    (hp : ∀ (cdv : Value) (A : Around) (outer : List Env) (s : Shared) (H : Hp) (E : XK), Room k (A.deeper (envOfC qual (defScope st) s.heap.objs.size f cdv)) → PSs (cxOf CX0 P w K mg base N qual (defScope st) f cdv A outer s H E).nox (defBody st) T)
    (hs : ∀ ds d, R ds d → SemS K T (slots N.length ds) { nx := fun _ => d = .non, rt := fun d' => d' = d }) : FnOk P w K mg base CX0 (k + 1) f fd ps (spD K R) := by
  refine F.ok S (fun vs H Q E h => ?_) (fun cdv A outer s H vs Q E hr h => ?_)
  · obtain ⟨G, ds, d, e, r, hR, q⟩ := h
    rw [r.length]
    exact hlen ds d hR
  · obtain ⟨G, ds, d, e, r, hR, q⟩ := h
    refine ⟨T, hp cdv A outer s H E hr, hs ds d hR G H _ G H _ (sat_start e r) (fun ρ' σ' G' H' h S' => ?_) (fun d' v G' H' h g rv => ?_) (fun _ _ _ _ h _ => h.elim) (fun _ _ _ _ h _ => h.elim)⟩
    · cases h
      exact q _ _ _ S'.gr .non
    · cases h
      exact q _ _ _ g rv
theorem gd_of {x qual : Str} {st : Stmt} {f : Addr} {fd : FuncData} {N ps : List Str} {k : Nat} {R : List Dat → Dat → Prop} {T : TS} (F : Fun K x qual st f fd) (hm : mg x = some (.ref f)) (hb : Binds K fd ps []) (S : FnScope N ps (defScope st))
    (hlen : ∀ ds d, R ds d → ds.length = ps.length)
    (hp : ∀ (cdv : Value) (A : Around) (outer : List Env) (s : Shared) (H : Hp) (E : XK), Room k (A.deeper (envOfC qual (defScope st) s.heap.objs.size f cdv)) → PSs (cxOf CX0 P w K mg base N qual (defScope st) f cdv A outer s H E).nox (defBody st) T)
    (hs : ∀ ds d, R ds d → SemS K T (slots N.length ds) { nx := fun _ => d = .non, rt := fun d' => d' = d }) : GD P w K mg base (k + 1) x ps (spD K R) :=
  ⟨f, fd, fn_d F S hlen hp hs, hm, F.kp, hb⟩
end
end DL

set_option Elab.async false
set_option linter.all false
set_option maxRecDepth 100000
namespace DL
open PySem PySem.Spec PyProof.Rows L2
open Evl (Ex ex_l ex_t fresh_back)

/-! ### methods of texts -/
def uSplit : V → List V → Hp → VK → Prop := fun x xs H Q => ∃ a b, x = .str a ∧ xs = [.str b] ∧ (b.length == 0) = false ∧ a.length + 2 ≤ sizeLine ∧ rNewStrs (Txt.split a b) H Q
def uJoin (K : PySem.W.Frag) : V → List V → Hp → VK → Prop := fun x xs H Q => ∃ a p, ∃ ys : List Str, x = .str a ∧ xs = [.ref p] ∧ (SqL K H p (ys.map V.str) ∨ SqT K H p (ys.map V.str)) ∧ (ys.map (·.length)).sum + ys.length * a.length ≤ 16777216 ∧ Q (.str (Txt.join a ys)) H
def uStarts3 : V → List V → Hp → VK → Prop := fun x xs H Q => ∃ (a b : Str) (i : Int), x = .str a ∧ xs = [.str b, .int i] ∧ Q (.bl (Txt.startswith3 a b i)) H
def uFind3 : V → List V → Hp → VK → Prop := fun x xs H Q => ∃ (a b : Str) (i : Int), x = .str a ∧ xs = [.str b, .int i] ∧ Q (.int (Txt.find3 a b i)) H
section
variable {X : Cx} {K : PySem.W.Frag} {o e : Expr} {es : List Expr} {to te : TE} {ta : TA} {apos pos : Pos}
theorem pe_usplit (ho : PE X o to) (he : PE X e te) (hs : starEach [e] X.env = [(false, eval e X.env)] := by rfl) (hbase : attributeBase o "split" X.env (eval o X.env) = eval o X.env := by rfl) (hline : (apos.endLine == pos.line) = true := by rfl) :
    PE X (.Call (.Attribute o "split" apos) [e] [] pos) (tM1 uSplit to te) := pe_split ho he hs hbase hline
theorem pe_ujoin (hK : X.K = K) (ho : PE X o to) (he : PE X e te) (hs : starEach [e] X.env = [(false, eval e X.env)] := by rfl) (hbase : attributeBase o "join" X.env (eval o X.env) = eval o X.env := by rfl) (hline : (apos.endLine == pos.line) = true := by rfl) :
    PE X (.Call (.Attribute o "join" apos) [e] [] pos) (tM1 (uJoin K) to te) := by
  subst hK
  exact pe_join ho he hs hbase hline
end
def joinL (a : List Nat) : List (List Nat) → List Nat
  | [] => []
  | [x] => x
  | x :: y :: r => x ++ a ++ joinL a (y :: r)
theorem join_strL (a : List Nat) : ∀ ys : List (List Nat), Str.join (strL a) (ys.map strL) = strL (joinL a ys)
  | [] => rfl
  | [x] => rfl
  | x :: y :: r => by
    have ih := join_strL a (y :: r)
    show strL x ++ strL a ++ Str.join (strL a) ((y :: r).map strL) = strL (x ++ a ++ joinL a (y :: r))
    rw [ih, strL_app, strL_app]
section
variable {K : PySem.W.Frag} {ρ : List Sl} {t ta tb tc te : TE} {a b c d : Dat}
theorem ofStrs {G : Hp} : ∀ ys : List Str, DRs K G (ys.map V.str) (ys.map fun s => .txt s.cps.toList)
  | [] => .nil
  | y :: r => .cons (.ofStr y) (ofStrs r)
theorem ms_split {a b : List Nat} (hb : b ≠ []) (ha : a.length ≤ 16000000) : MtS K uSplit (.txt a) [.txt b] (.lst ((Txt.split (strL a) (strL b)).map fun s => .txt s.cps.toList)) := fun x xs G H e rx rs Q q => by
  cases rx
  cases rs with
  | cons h r =>
    cases r; cases h
    refine ⟨_, _, rfl, rfl, ?_, ?_, fun p hp => q _ _ _ (Grow.new e hp) (.lst upd_same (ofStrs _))⟩
    · rw [← strL, strL_len]
      cases b with
      | nil => exact absurd rfl hb
      | cons c r => rfl
    · rw [← strL, strL_len]
      unfold sizeLine
      omega
theorem ms_join {a : List Nat} {ys : List (List Nat)} (hz : (ys.map (·.length)).sum + ys.length * a.length ≤ 16777216) : MtS K (uJoin K) (.txt a) [.lst (ys.map .txt)] (.txt (joinL a ys)) := fun x xs G H e rx rs Q q => by
  cases rx
  cases rs with
  | cons h r =>
    cases r
    cases h with
    | lst hl r =>
      have z := r.txts
      subst z
      refine ⟨_, _, ys.map strL, rfl, rfl, .inl (.inl (.inl (e _ _ hl))), ?_, ?_⟩
      · rw [← strL, strL_len, List.length_map, List.map_map]
        have e2 : ((fun s : Str => s.length) ∘ strL) = fun l : List Nat => l.length := by
          funext l
          exact strL_len l
        rw [e2]
        exact hz
      · rw [← strL, show Txt.join (strL a) (ys.map strL) = Str.join (strL a) (ys.map strL) from StrLaws.glued_eq_join _ _, join_strL]
        exact q _ _ _ (Grow.refl e) (.txt _)
theorem ms_joinM {α : Type} {a : List Nat} {xs : List α} {f : α → List Nat} (hz : ((xs.map f).map (·.length)).sum + xs.length * a.length ≤ 16777216) : MtS K (uJoin K) (.txt a) [.lst (xs.map fun x => .txt (f x))] (.txt (joinL a (xs.map f))) := by
  have h := ms_join (K := K) (a := a) (ys := xs.map f) (by rw [List.length_map]; exact hz)
  rw [List.map_map] at h
  exact h
theorem s_dnew : Sem K tDNewK ρ (.dct []) := fun G0 B0 σ G H S Q q p hp => q _ _ _ (Grow.new S.gr.s hp) (.dct upd_same .nil)
/-! ### comprehensions over a list that is made of something -/
theorem sn_lcF {α : Type} {wi : TI} {tt : TT} {j : Nat} {enc : α → Dat} {xs : List α} {f : α → Bool} {g : α → Dat} (hi : SemI K wi ρ (xs.map enc)) (hz : xs.length ≤ sizeLine)
    (ht : ∀ x, x ∈ xs → SemT K tt (ρ.set j (.dat (enc x))) (f x)) (he : ∀ x, x ∈ xs → f x = true → Sem K te (ρ.set j (.dat (enc x))) (g x)) :
    SemN K (tLc wi (gName j) tt te [j]) ρ ((xs.filter f).map g) := fun G0 B0 σ G H S Q q =>
  hi _ _ _ _ _ S _ fun J G1 H1 g1 W D hD => by
    have S1 := S.grow g1
    have hl : (xs.map enc).length = xs.length := List.length_map _
    refine ⟨fun i m H' => m = xs.length - i ∧ i ≤ xs.length ∧ ∃ G' acc, Grow G1 H1 G' H' ∧ G' D = none ∧ H' D = some (.lst acc) ∧ DRs K G' acc (((xs.take i).filter f).map g), ⟨xs.length, by omega, Nat.zero_le _, G1, [], Grow.newM g1.s hD, fresh_back g1.s hD, upd_same, .nil⟩, ?_⟩
    rintro i m H' ⟨rfl, hi', G', acc, g2, n2, h2, r2⟩
    have hacc : acc.length ≤ i := by
      rw [r2.length, List.length_map]
      refine Nat.le_trans (List.length_filter_le _ _) ?_
      rw [List.length_take]; omega
    by_cases hlt : i < xs.length
    · have hx : xs[i]? = some xs[i] := List.getElem?_eq_getElem hlt
      have hd : (xs.map enc)[i]? = some (enc xs[i]) := by rw [List.getElem?_map, hx]; rfl
      have hmem : xs[i] ∈ xs := List.getElem_mem hlt
      refine .inr ⟨W.go i G' H' g2.g g2.s (by omega), fun H'' => i + 1 ≤ xs.length ∧ ∃ G' acc, Grow G1 H1 G' H'' ∧ G' D = none ∧ H'' D = some (.lst acc) ∧ DRs K G' acc (((xs.take (i + 1)).filter f).map g), fun H'' p => ⟨xs.length - (i + 1), by omega, rfl, p⟩, fun x H'' hy => ?_⟩
      obtain ⟨G3, g3, rx⟩ := W.yld i G' H' x H'' (enc xs[i]) g2.g g2.s hd hy
      have S3 : Sat K G0 B0 (ρ.set j (.dat (enc xs[i]))) ((wipe σ [j]).set j (some x)) G3 H'' := by
        have z := (((S1.grow g2).grow g3).forget1 (i := j)).set (i := j) rx
        rw [List.set_set] at z
        exact z
      refine ⟨wipe_set σ j x, ht _ hmem _ _ _ _ _ S3 _ fun G4 H4 g4 => ?_⟩
      have n4 : G4 D = none := (g3.trans g4).m D n2 (by rw [h2]; simp)
      have h4 : H4 D = some (.lst acc) := (g3.trans g4).h _ _ h2
      have et : xs.take (i + 1) = xs.take i ++ [xs[i]] := by rw [List.take_add_one, hx]; rfl
      cases hf : f xs[i] with
      | false =>
        rw [if_neg (by simp)]
        refine ⟨hlt, G4, acc, (g2.trans g3).trans g4, n4, h4, ?_⟩
        rw [et, List.filter_append, List.filter_cons, hf]
        simp only [Bool.false_eq_true, if_false, List.filter_nil, List.append_nil]
        exact r2.mono (g3.trans g4).g
      | true =>
        rw [if_pos rfl]
        refine he _ hmem hf _ _ _ _ _ (S3.grow g4) _ fun y G5 H5 g5 ry => ?_
        have n5 : G5 D = none := g5.m D n4 (by rw [h4]; simp)
        have h5 : H5 D = some (.lst acc) := g5.h _ _ h4
        have gg := ((g2.trans g3).trans g4).trans g5
        refine ⟨acc, h5, by omega, hlt, G5, acc ++ [y], ⟨gg.g, gg.s.mut n5, gg.h.mut hD, gg.m⟩, n5, upd_same, ?_⟩
        rw [et, List.filter_append, List.filter_cons, hf]
        simp only [if_true, List.filter_nil, List.map_append, List.map_cons, List.map_nil]
        exact (r2.mono ((g3.trans g4).trans g5).g).append (.cons ry .nil)
    · have ei : i = xs.length := by omega
      subst ei
      rw [List.take_length] at r2
      exact .inl ⟨W.stop _ G' H' g2.g g2.s (by omega), q D acc G' H' (g1.trans g2) (fresh_back g1.h hD) n2 h2 r2⟩
theorem sn_lcM {α : Type} {wi : TI} {j : Nat} {enc : α → Dat} {xs : List α} {g : α → Dat} (hi : SemI K wi ρ (xs.map enc)) (hz : xs.length ≤ sizeLine)
    (he : ∀ x, x ∈ xs → Sem K te (ρ.set j (.dat (enc x))) (g x)) : SemN K (tLc wi (gName j) tYes te [j]) ρ (xs.map g) := by
  have h := sn_lcF (K := K) (ρ := ρ) (te := te) (tt := tYes) (j := j) (f := fun _ => true) (g := g) hi hz (fun _ _ => st_yes) (fun x hx _ => he x hx)
  rw [List.filter_eq_self.mpr (fun _ _ => rfl)] at h
  exact h
theorem cs_allM {α : Type} {xs : List α} {p : α → Bool} : CallS K (rAll K) [.lst (xs.map fun x => .bl (p x))] (.bl (xs.all p)) := by
  have h := cs_all (K := K) (bs := xs.map p)
  rw [List.map_map, List.all_map] at h
  exact h
theorem st_test {te : TE} {k : Bool} (h : Sem K te ρ (.bl k)) : SemT K (tTest te) ρ k := fun G0 B0 σ G H S Q q => h _ _ _ _ _ S _ fun x G1 H1 g1 rx => by
  cases rx
  exact ⟨k, rfl, q _ _ g1⟩
/-! ### += -/
def uIpAdd : TIp := fun x y H Q => (∃ i j, x = .int i ∧ y = .int j ∧ Q (.int (i + j)) H) ∨ rExt2 x y H Q ∨ (∃ i j, x = .str i ∧ y = .str j ∧ i.length + j.length ≤ sizeLine ∧ Q (.str (i ++ j)) H)
theorem ipu_add {X : Cx} : PIp X .Add uIpAdd := by
  intro pins s σ H x y v u Q I rx ry h
  rcases h with h | h | h
  · exact ip_add pins s σ H x y v u Q I rx ry h
  · exact iop_ext pins s σ H x y v u Q I rx ry h
  · exact iop_add_str pins s σ H x y v u Q I rx ry h
variable {P : Post}
theorem ss_plus {i : Nat} {a b : Int} (hi : ρ[i]? = some (.dat (.int a))) (h : Sem K te ρ (.int b)) (p : P.nx (ρ.set i (.dat (.int (a + b))))) : SemS K (tAug i te uIpAdd) ρ P := fun G0 B0 σ G H D S n r bk c => by
  obtain ⟨v, k1, k2⟩ := S.dat i _ hi
  refine ⟨v, k1, h _ _ _ _ _ S _ fun y G1 H1 g1 ry => ?_⟩
  cases k2; cases ry
  exact .inl ⟨a, b, rfl, rfl, n _ _ _ _ p ((S.grow g1).set (.int _))⟩
/-- xs += a list -/
theorem ss_ext {i : Nat} {ds es : List Dat} (hi : ρ[i]? = some (.own ds)) (h : Sem K te ρ (.lst es)) (hz : ds.length + es.length ≤ sizeLine) (p : P.nx (ρ.set i (.own (ds ++ es)))) : SemS K (tAug i te uIpAdd) ρ P := fun G0 B0 σ G H D S n r b c => by
  obtain ⟨p0, vs0, k1, _, _, k4, _⟩ := S.own i ds hi
  refine ⟨.ref p0, k1, h _ _ _ _ _ S _ fun v G1 H1 g1 rv => ?_⟩
  have S1 := S.grow g1
  obtain ⟨p1, vs, l1, l2, l3, l4, l5⟩ := S1.own i ds hi
  have : p0 = p1 := by rw [k1] at l1; simpa using l1
  subst this
  cases rv with
  | lst hl r =>
    refine .inr (.inl ⟨p0, _, vs, _, rfl, rfl, l4, S1.gr.s _ _ hl, by rw [l5.length, r.length]; exact hz, n _ _ G1 _ p ?_⟩)
    have z := S1.write hi l1 (l5.append r)
    have e : σ.set i (some (.ref p0)) = σ := by
      apply List.ext_getElem?
      intro m
      by_cases q : i = m
      · subst q
        rw [List.getElem?_set_self', k1]
        rfl
      · rw [List.getElem?_set_ne q]
    rw [e]
    exact z
end
end DL
namespace DL
open PySem PySem.Spec PyProof.Rows L2
open Evl (Ex ex_l ex_t fresh_back)
section
variable {K : PySem.W.Frag} {ρ : List Sl}
theorem si_range1Z {ta : TA} {z : Int} (h : SemA K ta ρ [.int z]) (h0 : 0 ≤ z) (hn : z ≤ 1000000000) : SemI K (iRng1 ta) ρ ((List.range z.toNat).map fun k => .int ((k : Nat) : Int)) := by
  have e : z = ((z.toNat : Nat) : Int) := (Int.toNat_of_nonneg h0).symm
  rw [e] at h
  exact si_range1 h (by omega)
theorem os_in2 {a x y : List Nat} : OpS K (uIn K) (.txt a) (.tup [.txt x, .txt y]) (.bl (decide (a ∈ [x, y]))) := os_inTT (bs := [x, y])
theorem os_in3 {a x y z : List Nat} : OpS K (uIn K) (.txt a) (.tup [.txt x, .txt y, .txt z]) (.bl (decide (a ∈ [x, y, z]))) := os_inTT (bs := [x, y, z])
theorem os_notin2 {a x y : List Nat} : OpS K (uNotIn K) (.txt a) (.tup [.txt x, .txt y]) (.bl (!decide (a ∈ [x, y]))) := os_notinTT (bs := [x, y])
end
theorem atI_getD {α : Type} {xs : List α} {i : Int} (d : α) (h0 : 0 ≤ i) (h1 : i < xs.length) : atI xs i = some (xs.getD i.toNat d) := by
  have e : i = ((i.toNat : Nat) : Int) := (Int.toNat_of_nonneg h0).symm
  have hl : i.toNat < xs.length := by omega
  have z : xs[i.toNat]? = some (xs.getD i.toNat d) := by
    rw [List.getElem?_eq_getElem hl, List.getD_eq_getElem?_getD, List.getElem?_eq_getElem hl]
    rfl
  have w := atI_nat z
  rw [← e] at w
  exact w
theorem atI_mapD {α β : Type} (f : α → β) {xs : List α} {i : Int} (d : α) (h0 : 0 ≤ i) (h1 : i < xs.length) : atI (xs.map f) i = some (f (xs.getD i.toNat d)) := atI_map f (atI_getD d h0 h1)
theorem cutL_len {α : Type} (xs : List α) (lo hi : Option Int) : (cutL xs lo hi).length ≤ xs.length := by
  unfold cutL
  rw [List.length_take, List.length_drop]
  omega
theorem sum_len_le {α : Type} (f : α → List Nat) (m : Nat) : ∀ xs : List α, (∀ x ∈ xs, (f x).length ≤ m) → ((xs.map f).map (·.length)).sum ≤ xs.length * m
  | [], _ => Nat.zero_le _
  | x :: r, h => by
    have h1 := h x List.mem_cons_self
    have h2 := sum_len_le f m r fun y hy => h y (List.mem_cons_of_mem _ hy)
    rw [List.map_cons, List.map_cons, List.sum_cons, List.length_cons, Nat.succ_mul]
    show (f x).length + _ ≤ _
    omega
end DL
namespace DL
open PySem PySem.Spec PyProof.Rows L2
theorem kb_NoneType_str : kitB "NoneType" "str" = some false := by decide +kernel
theorem kb_NoneType_bool : kitB "NoneType" "bool" = some false := by decide +kernel
theorem kb_NoneType_int : kitB "NoneType" "int" = some false := by decide +kernel
theorem kb_NoneType_list : kitB "NoneType" "list" = some false := by decide +kernel
theorem kb_NoneType_tuple : kitB "NoneType" "tuple" = some false := by decide +kernel
theorem kb_NoneType_dict : kitB "NoneType" "dict" = some false := by decide +kernel
theorem kb_bool_str : kitB "bool" "str" = some false := by decide +kernel
theorem kb_bool_bool : kitB "bool" "bool" = some true := by decide +kernel
theorem kb_bool_int : kitB "bool" "int" = some true := by decide +kernel
theorem kb_bool_list : kitB "bool" "list" = some false := by decide +kernel
theorem kb_bool_tuple : kitB "bool" "tuple" = some false := by decide +kernel
theorem kb_bool_dict : kitB "bool" "dict" = some false := by decide +kernel
theorem kb_int_str : kitB "int" "str" = some false := by decide +kernel
theorem kb_int_bool : kitB "int" "bool" = some false := by decide +kernel
theorem kb_int_int : kitB "int" "int" = some true := by decide +kernel
theorem kb_int_list : kitB "int" "list" = some false := by decide +kernel
theorem kb_int_tuple : kitB "int" "tuple" = some false := by decide +kernel
theorem kb_int_dict : kitB "int" "dict" = some false := by decide +kernel
theorem kb_str_str : kitB "str" "str" = some true := by decide +kernel
theorem kb_str_bool : kitB "str" "bool" = some false := by decide +kernel
theorem kb_str_int : kitB "str" "int" = some false := by decide +kernel
theorem kb_str_list : kitB "str" "list" = some false := by decide +kernel
theorem kb_str_tuple : kitB "str" "tuple" = some false := by decide +kernel
theorem kb_str_dict : kitB "str" "dict" = some false := by decide +kernel
theorem kb_list_str : kitB "list" "str" = some false := by decide +kernel
theorem kb_list_bool : kitB "list" "bool" = some false := by decide +kernel
theorem kb_list_int : kitB "list" "int" = some false := by decide +kernel
theorem kb_list_list : kitB "list" "list" = some true := by decide +kernel
theorem kb_list_tuple : kitB "list" "tuple" = some false := by decide +kernel
theorem kb_list_dict : kitB "list" "dict" = some false := by decide +kernel
theorem kb_tuple_str : kitB "tuple" "str" = some false := by decide +kernel
theorem kb_tuple_bool : kitB "tuple" "bool" = some false := by decide +kernel
theorem kb_tuple_int : kitB "tuple" "int" = some false := by decide +kernel
theorem kb_tuple_list : kitB "tuple" "list" = some false := by decide +kernel
theorem kb_tuple_tuple : kitB "tuple" "tuple" = some true := by decide +kernel
theorem kb_tuple_dict : kitB "tuple" "dict" = some false := by decide +kernel
theorem kb_dict_str : kitB "dict" "str" = some false := by decide +kernel
theorem kb_dict_bool : kitB "dict" "bool" = some false := by decide +kernel
theorem kb_dict_int : kitB "dict" "int" = some false := by decide +kernel
theorem kb_dict_list : kitB "dict" "list" = some false := by decide +kernel
theorem kb_dict_tuple : kitB "dict" "tuple" = some false := by decide +kernel
theorem kb_dict_dict : kitB "dict" "dict" = some true := by decide +kernel
theorem s_ty {K : PySem.W.Frag} {ρ : List Sl} {n : String} : Sem K (tC (.ty n)) ρ (.ty n) := s_c fun _ => .ty n
end DL

set_option Elab.async false
set_option linter.all false
set_option maxRecDepth 100000
namespace K11
open PySem PySem.Spec PyProof.Rows L2 DL
def topS (i : Nat) : Stmt := PySem.Challenge.pw_readwright_k11_fixed_words_and_kinds.main.body.getD i (.Pass ⟨0, 0, 0, 0⟩)
/-! is_of: slots 0 text, 1 signs, 2 most, 3 sign -/
abbrev s_is_of : Stmt := topS 6
theorem sc_is_of : FnScope ["text", "signs", "most", "sign"] ["text", "signs", "most"] (defScope s_is_of) := ⟨rfl, rfl, rfl, by decide +kernel, rfl, by decide +kernel, by decide +kernel⟩
def T_is_of (K : PySem.W.Frag) : TS :=
  (tRet (tAndV (tChain uLe uLe (tC (.int 1)) (tCB (uLen K) (tCons (tVar 0) tNil)) (tVar 2)) (tCB (rAll K) (tCons (tLc (iU K (tVar 0)) (gName 3) tYes (tOp (uIn K) (tVar 3) (tVar 1)) [3]) tNil))))
theorem p_is_of {P : Program} {w : World} {K : PySem.W.Frag} {mg : Str → Option Value} {base : Heap} {f : Addr} {k : Nat} (mz_len : mg "len" = none) (mz_all : mg "all" = none) (cdv : Value) (A : Around) (outer : List Env) (s : Shared) (H : Hp) (E : XK)
    (hr : Room k (A.deeper (envOfC "is_of" (defScope s_is_of) s.heap.objs.size f cdv))) :
    PSs (cxOf CX0 P w K mg base ["text", "signs", "most", "sign"] "is_of" (defScope s_is_of) f cdv A outer s H E).nox (defBody s_is_of) (T_is_of K) :=
  (pss_one (ps_ret (pe_and (pe_chain ou_le ou_le pe_int (pe_callB (cu_len rfl) (by rfl) mz_len (by decide +kernel) (pa_cons (pv 0) pa_nil)) (pv 2)) (pe_one (pe_callB (cu_all rfl rfl) (by rfl) mz_all (by decide +kernel) (pa_cons (pe_lc (own := [("sign", 3)]) (g := (gName 3)) (tt := tYes) (te := (tOp (uIn K) (tVar 3) (tVar 1))) rfl sc_is_of.nd (pi_u rfl (pv 0)) (blkOk_by (own := [("sign", 3)]) (N := ["text", "signs", "most", "sign"]) (sc := defScope s_is_of) (by decide +kernel)) (fun _ _ _ _ _ => (pg_name (i := 3) sc_is_of.nd rfl (by first | exact Or.inl rfl | exact Or.inr rfl))) (fun _ _ _ _ _ => pts_nil) (fun _ _ _ _ _ => (pe_cmpR (ou_in rfl (room65 hr)) (pv 3) (pv 1) (by rfl)))) pa_nil))))))
/-! is_fixed: slots 0 thing -/
abbrev s_is_fixed : Stmt := topS 7
theorem sc_is_fixed : FnScope ["thing"] ["thing"] (defScope s_is_fixed) := ⟨rfl, rfl, rfl, by decide +kernel, rfl, by decide +kernel, by decide +kernel⟩
def T_is_fixed (K : PySem.W.Frag) (sp_is_of : Sp) (g_LETTERS : V) (g_MOST_LETTERS : V) (g_SIGNS : V) (g_MOST_SIGNS : V) : TS :=
  (tRet (tAndV (tCB (rIsi K) (tCons (tVar 0) (tCons (tC (.ty "str")) tNil))) (tOrV (tCall sp_is_of [] E0 (tCons (tVar 0) (tCons (tC g_LETTERS) (tCons (tC g_MOST_LETTERS) tNil)))) (tCall sp_is_of [] E0 (tCons (tVar 0) (tCons (tC g_SIGNS) (tCons (tC g_MOST_SIGNS) tNil)))))))
theorem p_is_fixed {P : Program} {w : World} {K : PySem.W.Frag} {mg : Str → Option Value} {base : Heap} {f : Addr} {k : Nat} {sp_is_of : Sp} (gd_is_of : GD P w K mg base k "is_of" ["text", "signs", "most"] sp_is_of) {g_LETTERS : V} {u_LETTERS : Value} (mg_LETTERS : mg "LETTERS" = some u_LETTERS) (rv_LETTERS : RelV g_LETTERS u_LETTERS) {g_MOST_LETTERS : V} {u_MOST_LETTERS : Value} (mg_MOST_LETTERS : mg "MOST_LETTERS" = some u_MOST_LETTERS) (rv_MOST_LETTERS : RelV g_MOST_LETTERS u_MOST_LETTERS) {g_SIGNS : V} {u_SIGNS : Value} (mg_SIGNS : mg "SIGNS" = some u_SIGNS) (rv_SIGNS : RelV g_SIGNS u_SIGNS) {g_MOST_SIGNS : V} {u_MOST_SIGNS : Value} (mg_MOST_SIGNS : mg "MOST_SIGNS" = some u_MOST_SIGNS) (rv_MOST_SIGNS : RelV g_MOST_SIGNS u_MOST_SIGNS) (mz_isinstance : mg "isinstance" = none) (mz_str : mg "str" = none) (cdv : Value) (A : Around) (outer : List Env) (s : Shared) (H : Hp) (E : XK)
    (hr : Room k (A.deeper (envOfC "is_fixed" (defScope s_is_fixed) s.heap.objs.size f cdv))) :
    PSs (cxOf CX0 P w K mg base ["thing"] "is_fixed" (defScope s_is_fixed) f cdv A outer s H E).nox (defBody s_is_fixed) (T_is_fixed K sp_is_of g_LETTERS g_MOST_LETTERS g_SIGNS g_MOST_SIGNS) :=
  (pss_one (ps_ret (pe_and (pe_callB (cu_isi rfl) (by rfl) mz_isinstance (by decide +kernel) (pa_cons (pv 0) (pa_cons (pe_bltn (v := .ty "str") (by rfl) mz_str (by decide +kernel) rfl) pa_nil))) (pe_one (pe_or (pe_gd gd_is_of hr (by rfl) (pa_cons (pv 0) (pa_cons (pe_glob (by rfl) mg_LETTERS rv_LETTERS) (pa_cons (pe_glob (by rfl) mg_MOST_LETTERS rv_MOST_LETTERS) pa_nil)))) (pe_one (pe_gd gd_is_of hr (by rfl) (pa_cons (pv 0) (pa_cons (pe_glob (by rfl) mg_SIGNS rv_SIGNS) (pa_cons (pe_glob (by rfl) mg_MOST_SIGNS rv_MOST_SIGNS) pa_nil))))))))))
/-! is_kind: slots 0 thing -/
abbrev s_is_kind : Stmt := topS 8
theorem sc_is_kind : FnScope ["thing"] ["thing"] (defScope s_is_kind) := ⟨rfl, rfl, rfl, by decide +kernel, rfl, by decide +kernel, by decide +kernel⟩
def T_is_kind (K : PySem.W.Frag) (sp_is_fixed : Sp) (g_OPEN : V) : TS :=
  (tSeq (tIfS (tNot (tTru K (tCB (rIsi K) (tCons (tVar 0) (tCons (tC (.ty "str")) tNil))))) (tRet (tC (.bl false))) tNext)
  (tRet (tOrV (tOp (uIn K) (tVar 0) (tC g_OPEN)) (tAndV (tOp (uEq K) (tSl (uSl K) (tVar 0) tNoPart (tPart (tC (.int 1)))) (tC (.str (Str.ofString "'")))) (tCall sp_is_fixed [] E0 (tCons (tSl (uSl K) (tVar 0) (tPart (tC (.int 1))) tNoPart) tNil))))))
theorem p_is_kind {P : Program} {w : World} {K : PySem.W.Frag} {mg : Str → Option Value} {base : Heap} {f : Addr} {k : Nat} {sp_is_fixed : Sp} (gd_is_fixed : GD P w K mg base k "is_fixed" ["thing"] sp_is_fixed) {g_OPEN : V} {u_OPEN : Value} (mg_OPEN : mg "OPEN" = some u_OPEN) (rv_OPEN : RelV g_OPEN u_OPEN) (mz_isinstance : mg "isinstance" = none) (mz_str : mg "str" = none) (cdv : Value) (A : Around) (outer : List Env) (s : Shared) (H : Hp) (E : XK)
    (hr : Room k (A.deeper (envOfC "is_kind" (defScope s_is_kind) s.heap.objs.size f cdv))) :
    PSs (cxOf CX0 P w K mg base ["thing"] "is_kind" (defScope s_is_kind) f cdv A outer s H E).nox (defBody s_is_kind) (T_is_kind K sp_is_fixed g_OPEN) :=
  (pss_cons (ps_if (pt_not (pt_any rfl (pe_callB (cu_isi rfl) (by rfl) mz_isinstance (by decide +kernel) (pa_cons (pv 0) (pa_cons (pe_bltn (v := .ty "str") (by rfl) mz_str (by decide +kernel) rfl) pa_nil))))) (pss_one (ps_ret pe_bl)) pss_nil)
  (pss_one (ps_ret (pe_or (pe_cmpR (ou_in rfl (room65 hr)) (pv 0) (pe_glob (by rfl) mg_OPEN rv_OPEN) (by rfl)) (pe_one (pe_and (pe_cmpR (ou_eq rfl (room64 hr)) (pe_slice (ou_sl rfl) (pv 0) po_none (po_some pe_int)) pe_str (nomark _)) (pe_one (pe_gd gd_is_fixed hr (by rfl) (pa_cons (pe_slice (ou_sl rfl) (pv 0) (po_some pe_int) po_none) pa_nil)))))))))
/-! kind_of: slots 0 word -/
abbrev s_kind_of : Stmt := topS 9
theorem sc_kind_of : FnScope ["word"] ["word"] (defScope s_kind_of) := ⟨rfl, rfl, rfl, by decide +kernel, rfl, by decide +kernel, by decide +kernel⟩
def T_kind_of (K : PySem.W.Frag) : TS :=
  (tRet (tOp (uAdd K) (tC (.str (Str.ofString "'"))) (tVar 0)))
theorem p_kind_of {P : Program} {w : World} {K : PySem.W.Frag} {mg : Str → Option Value} {base : Heap} {f : Addr} {k : Nat} (cdv : Value) (A : Around) (outer : List Env) (s : Shared) (H : Hp) (E : XK)
    (hr : Room k (A.deeper (envOfC "kind_of" (defScope s_kind_of) s.heap.objs.size f cdv))) :
    PSs (cxOf CX0 P w K mg base ["word"] "kind_of" (defScope s_kind_of) f cdv A outer s H E).nox (defBody s_kind_of) (T_kind_of K) :=
  (pss_one (ps_ret (pe_op (ou_add rfl) pe_str (pv 0))))
/-! fixed_of: slots 0 kind -/
abbrev s_fixed_of : Stmt := topS 10
theorem sc_fixed_of : FnScope ["kind"] ["kind"] (defScope s_fixed_of) := ⟨rfl, rfl, rfl, by decide +kernel, rfl, by decide +kernel, by decide +kernel⟩
def T_fixed_of (K : PySem.W.Frag) (g_OPEN : V) : TS :=
  (tRet (tIf (tTest (tOp (uIn K) (tVar 0) (tC g_OPEN))) (tC .non) (tSl (uSl K) (tVar 0) (tPart (tC (.int 1))) tNoPart)))
theorem p_fixed_of {P : Program} {w : World} {K : PySem.W.Frag} {mg : Str → Option Value} {base : Heap} {f : Addr} {k : Nat} {g_OPEN : V} {u_OPEN : Value} (mg_OPEN : mg "OPEN" = some u_OPEN) (rv_OPEN : RelV g_OPEN u_OPEN) (cdv : Value) (A : Around) (outer : List Env) (s : Shared) (H : Hp) (E : XK)
    (hr : Room k (A.deeper (envOfC "fixed_of" (defScope s_fixed_of) s.heap.objs.size f cdv))) :
    PSs (cxOf CX0 P w K mg base ["kind"] "fixed_of" (defScope s_fixed_of) f cdv A outer s H E).nox (defBody s_fixed_of) (T_fixed_of K g_OPEN) :=
  (pss_one (ps_ret (pe_ifExp (pt_cmpR (ou_in rfl (room65 hr)) (pv 0) (pe_glob (by rfl) mg_OPEN rv_OPEN) (by rfl)) pe_non (pe_slice (ou_sl rfl) (pv 0) (po_some pe_int) po_none))))
/-! _law_cell: slots 0 _law_script, 1 _law_k, 2 _law_cell_here, 3 _law_more -/
abbrev s__law_cell : Stmt := topS 12
theorem sc__law_cell : FnScope ["_law_script", "_law_k", "_law_cell_here", "_law_more"] ["_law_script", "_law_k"] (defScope s__law_cell) := ⟨rfl, rfl, rfl, by decide +kernel, rfl, by decide +kernel, by decide +kernel⟩
def T__law_cell (K : PySem.W.Frag) : TS :=
  (tSeq (tAsg (tOp (uAdd K) (tOp uMul (tC (.int 7919)) (tVar 1)) (tC (.int 11))) (gName 2))
  (tSeq (tIfS (tTest (tOp (uNe K) (tVar 0) (tLst tNil))) (tSeq (tAsg (tOp (uAdd K) (tOp uMul (tOp (rIx K) (tVar 0) (tOp uMod (tVar 1) (tCB (uLen K) (tCons (tVar 0) tNil)))) (tC (.int 48271))) (tOp uMul (tC (.int 104729)) (tVar 1))) (gName 2))
  (tAsg (tOp (uAdd K) (tVar 2) (tOp uMul (tOp uDiv (tVar 1) (tCB (uLen K) (tCons (tVar 0) tNil))) (tC (.int 7919)))) (gName 2))) tNext)
  (tSeq (tAsg (tOp uMod (tVar 2) (tC (.int 2147483647))) (gName 3))
  (tSeq (tAsg (tOp uMod (tOp uMul (tVar 3) (tVar 3)) (tC (.int 2147483629))) (gName 3))
  (tRet (tOp uMod (tOp (uAdd K) (tOp (uAdd K) (tOp uMul (tVar 3) (tVar 3)) (tOp uMul (tC (.int 69621)) (tVar 3))) (tVar 1)) (tC (.int 2147483587))))))))
theorem p__law_cell {P : Program} {w : World} {K : PySem.W.Frag} {mg : Str → Option Value} {base : Heap} {f : Addr} {k : Nat} (mz_len : mg "len" = none) (cdv : Value) (A : Around) (outer : List Env) (s : Shared) (H : Hp) (E : XK)
    (hr : Room k (A.deeper (envOfC "_law_cell" (defScope s__law_cell) s.heap.objs.size f cdv))) :
    PSs (cxOf CX0 P w K mg base ["_law_script", "_law_k", "_law_cell_here", "_law_more"] "_law_cell" (defScope s__law_cell) f cdv A outer s H E).nox (defBody s__law_cell) (T__law_cell K) :=
  (pss_cons (ps_set (i := 2) sc__law_cell.nd rfl (Or.inl rfl) (pe_op (ou_add rfl) (pe_op ou_mul pe_int (pv 1)) pe_int))
  (pss_cons (ps_if (pt_cmpR (ou_ne rfl (room64 hr)) (pv 0) (pe_lst pa_nil) (nomark _)) (pss_cons (ps_set (i := 2) sc__law_cell.nd rfl (Or.inl rfl) (pe_op (ou_add rfl) (pe_op ou_mul (pe_ix (ou_ix rfl) (pv 0) (pe_op ou_mod (pv 1) (pe_callB (cu_len rfl) (by rfl) mz_len (by decide +kernel) (pa_cons (pv 0) pa_nil))) (fun _ _ => rfl)) pe_int) (pe_op ou_mul pe_int (pv 1))))
  (pss_one (ps_set (i := 2) sc__law_cell.nd rfl (Or.inl rfl) (pe_op (ou_add rfl) (pv 2) (pe_op ou_mul (pe_op ou_div (pv 1) (pe_callB (cu_len rfl) (by rfl) mz_len (by decide +kernel) (pa_cons (pv 0) pa_nil))) pe_int))))) pss_nil)
  (pss_cons (ps_set (i := 3) sc__law_cell.nd rfl (Or.inl rfl) (pe_op ou_mod (pv 2) pe_int))
  (pss_cons (ps_set (i := 3) sc__law_cell.nd rfl (Or.inl rfl) (pe_op ou_mod (pe_op ou_mul (pv 3) (pv 3)) pe_int))
  (pss_one (ps_ret (pe_op ou_mod (pe_op (ou_add rfl) (pe_op (ou_add rfl) (pe_op ou_mul (pv 3) (pv 3)) (pe_op ou_mul pe_int (pv 3))) (pv 1)) pe_int)))))))
/-! _law_signs: slots  -/
abbrev s__law_signs : Stmt := topS 13
theorem sc__law_signs : FnScope [] [] (defScope s__law_signs) := ⟨rfl, rfl, rfl, by decide +kernel, rfl, by decide +kernel, by decide +kernel⟩
def T__law_signs (K : PySem.W.Frag) : TS :=
  (tRet (tC (.str (Str.ofString "!#$&()*+,-./:;<=>?@\x5b]^{|}~"))))
theorem p__law_signs {P : Program} {w : World} {K : PySem.W.Frag} {mg : Str → Option Value} {base : Heap} {f : Addr} {k : Nat} (cdv : Value) (A : Around) (outer : List Env) (s : Shared) (H : Hp) (E : XK)
    (hr : Room k (A.deeper (envOfC "_law_signs" (defScope s__law_signs) s.heap.objs.size f cdv))) :
    PSs (cxOf CX0 P w K mg base [] "_law_signs" (defScope s__law_signs) f cdv A outer s H E).nox (defBody s__law_signs) (T__law_signs K) :=
  (pss_one (ps_ret pe_str))
/-! _law_fixed_by: slots 0 _law_cell_here, 1 _law_letters, 2 _law_usual, 3 _law_step, 4 _law_k -/
abbrev s__law_fixed_by : Stmt := topS 14
theorem sc__law_fixed_by : FnScope ["_law_cell_here", "_law_letters", "_law_usual", "_law_step", "_law_k"] ["_law_cell_here"] (defScope s__law_fixed_by) := ⟨rfl, rfl, rfl, by decide +kernel, rfl, by decide +kernel, by decide +kernel⟩
def T__law_fixed_by (K : PySem.W.Frag) (sp__law_signs : Sp) : TS :=
  (tSeq (tAsg (tC (.str (Str.ofString "abcdefghijklmnopqrstuvwxyz"))) (gName 1))
  (tSeq (tAsg (tM1 uSplit (tC (.str (Str.ofString "if in then a ab < <= = == ( ) - -> + zz no > >="))) (tC (.str (Str.ofString " ")))) (gName 2))
  (tSeq (tIfS (tTest (tOp uGt (tOp uMod (tVar 0) (tC (.int 3))) (tC (.int 0)))) (tRet (tOp (rIx K) (tVar 2) (tOp uMod (tOp uDiv (tVar 0) (tC (.int 3))) (tC (.int 18))))) tNext)
  (tSeq (tIfS (tTest (tOp (uEq K) (tOp uMod (tOp uDiv (tVar 0) (tC (.int 3))) (tC (.int 2))) (tC (.int 0)))) (tSeq (tAsg (tOp (uAdd K) (tC (.int 1)) (tOp uMod (tOp uDiv (tVar 0) (tC (.int 78))) (tC (.int 25)))) (gName 3))
  (tRet (tM1 (uJoin K) (tC (.str (Str.ofString ""))) (tLc (iRng1 (tCons (tOp (uAdd K) (tC (.int 1)) (tOp uMod (tOp uDiv (tVar 0) (tC (.int 2000))) (tC (.int 8)))) tNil)) (gName 4) tYes (tOp (rIx K) (tVar 1) (tOp uMod (tOp (uAdd K) (tOp uDiv (tVar 0) (tC (.int 6))) (tOp uMul (tVar 4) (tVar 3))) (tC (.int 26)))) [4])))) tNext)
  (tSeq (tAsg (tOp uMod (tOp uDiv (tVar 0) (tC (.int 162))) (tC (.int 26))) (gName 3))
  (tRet (tM1 (uJoin K) (tC (.str (Str.ofString ""))) (tLc (iRng1 (tCons (tOp (uAdd K) (tC (.int 1)) (tOp uMod (tOp uDiv (tVar 0) (tC (.int 5000))) (tC (.int 3)))) tNil)) (gName 4) tYes (tOp (rIx K) (tCall sp__law_signs [] E0 tNil) (tOp uMod (tOp (uAdd K) (tOp uDiv (tVar 0) (tC (.int 6))) (tOp uMul (tVar 4) (tVar 3))) (tC (.int 26)))) [4]))))))))
theorem p__law_fixed_by {P : Program} {w : World} {K : PySem.W.Frag} {mg : Str → Option Value} {base : Heap} {f : Addr} {k : Nat} {sp__law_signs : Sp} (gd__law_signs : GD P w K mg base k "_law_signs" [] sp__law_signs) (mz_range : mg "range" = none) (cdv : Value) (A : Around) (outer : List Env) (s : Shared) (H : Hp) (E : XK)
    (hr : Room k (A.deeper (envOfC "_law_fixed_by" (defScope s__law_fixed_by) s.heap.objs.size f cdv))) :
    PSs (cxOf CX0 P w K mg base ["_law_cell_here", "_law_letters", "_law_usual", "_law_step", "_law_k"] "_law_fixed_by" (defScope s__law_fixed_by) f cdv A outer s H E).nox (defBody s__law_fixed_by) (T__law_fixed_by K sp__law_signs) :=
  (pss_cons (ps_set (i := 1) sc__law_fixed_by.nd rfl (Or.inr rfl) pe_str)
  (pss_cons (ps_set (i := 2) sc__law_fixed_by.nd rfl (Or.inl rfl) (pe_usplit pe_str pe_str))
  (pss_cons (ps_if (pt_cmpR ou_gt (pe_op ou_mod (pv 0) pe_int) pe_int (nomark _)) (pss_one (ps_ret (pe_ix (ou_ix rfl) (pv 2) (pe_op ou_mod (pe_op ou_div (pv 0) pe_int) pe_int) (fun _ _ => rfl)))) pss_nil)
  (pss_cons (ps_if (pt_cmpR (ou_eq rfl (room64 hr)) (pe_op ou_mod (pe_op ou_div (pv 0) pe_int) pe_int) pe_int (nomark _)) (pss_cons (ps_set (i := 3) sc__law_fixed_by.nd rfl (Or.inr rfl) (pe_op (ou_add rfl) pe_int (pe_op ou_mod (pe_op ou_div (pv 0) pe_int) pe_int)))
  (pss_one (ps_ret (pe_ujoin rfl pe_str (pe_lc (own := [("_law_k", 4)]) (g := (gName 4)) (tt := tYes) (te := (tOp (rIx K) (tVar 1) (tOp uMod (tOp (uAdd K) (tOp uDiv (tVar 0) (tC (.int 6))) (tOp uMul (tVar 4) (tVar 3))) (tC (.int 26))))) rfl sc__law_fixed_by.nd (pi_range1 (by rfl) mz_range (pa_cons (pe_op (ou_add rfl) pe_int (pe_op ou_mod (pe_op ou_div (pv 0) pe_int) pe_int)) pa_nil)) (blkOk_by (own := [("_law_k", 4)]) (N := ["_law_cell_here", "_law_letters", "_law_usual", "_law_step", "_law_k"]) (sc := defScope s__law_fixed_by) (by decide +kernel)) (fun _ _ _ _ _ => (pg_name (i := 4) sc__law_fixed_by.nd rfl (by first | exact Or.inl rfl | exact Or.inr rfl))) (fun _ _ _ _ _ => pts_nil) (fun _ _ _ _ _ => (pe_ix (ou_ix rfl) (pv 1) (pe_op ou_mod (pe_op (ou_add rfl) (pe_op ou_div (pv 0) pe_int) (pe_op ou_mul (pv 4) (pv 3))) pe_int) (fun _ _ => rfl)))))))) pss_nil)
  (pss_cons (ps_set (i := 3) sc__law_fixed_by.nd rfl (Or.inr rfl) (pe_op ou_mod (pe_op ou_div (pv 0) pe_int) pe_int))
  (pss_one (ps_ret (pe_ujoin rfl pe_str (pe_lc (own := [("_law_k", 4)]) (g := (gName 4)) (tt := tYes) (te := (tOp (rIx K) (tCall sp__law_signs [] E0 tNil) (tOp uMod (tOp (uAdd K) (tOp uDiv (tVar 0) (tC (.int 6))) (tOp uMul (tVar 4) (tVar 3))) (tC (.int 26))))) rfl sc__law_fixed_by.nd (pi_range1 (by rfl) mz_range (pa_cons (pe_op (ou_add rfl) pe_int (pe_op ou_mod (pe_op ou_div (pv 0) pe_int) pe_int)) pa_nil)) (blkOk_by (own := [("_law_k", 4)]) (N := ["_law_cell_here", "_law_letters", "_law_usual", "_law_step", "_law_k"]) (sc := defScope s__law_fixed_by) (by decide +kernel)) (fun _ _ _ _ _ => (pg_name (i := 4) sc__law_fixed_by.nd rfl (by first | exact Or.inl rfl | exact Or.inr rfl))) (fun _ _ _ _ _ => pts_nil) (fun _ _ _ _ _ => (pe_ix (ou_ix rfl) (pe_gd0 gd__law_signs hr (by rfl)) (pe_op ou_mod (pe_op (ou_add rfl) (pe_op ou_div (pv 0) pe_int) (pe_op ou_mul (pv 4) (pv 3))) pe_int) (fun _ _ => rfl))))))))))))
/-! _law_is_fixed: slots 0 _law_text, 1 _law_letters, 2 _law_signs_here, 3 _law_sign -/
abbrev s__law_is_fixed : Stmt := topS 15
theorem sc__law_is_fixed : FnScope ["_law_text", "_law_letters", "_law_signs_here", "_law_sign"] ["_law_text"] (defScope s__law_is_fixed) := ⟨rfl, rfl, rfl, by decide +kernel, rfl, by decide +kernel, by decide +kernel⟩
def T__law_is_fixed (K : PySem.W.Frag) (sp__law_signs : Sp) : TS :=
  (tSeq (tIfS (tTest (tOp (uEq K) (tVar 0) (tC (.str (Str.ofString ""))))) (tRet (tC (.bl false))) tNext)
  (tSeq (tAsg (tLc (iU K (tVar 0)) (gName 3) (tTest (tOp (uIn K) (tVar 3) (tC (.str (Str.ofString "abcdefghijklmnopqrstuvwxyz"))))) (tVar 3) [3]) (gName 1))
  (tSeq (tAsg (tLc (iU K (tVar 0)) (gName 3) (tTest (tOp (uIn K) (tVar 3) (tCall sp__law_signs [] E0 tNil))) (tVar 3) [3]) (gName 2))
  (tRet (tOrV (tChain (uEq K) uLe (tCB (uLen K) (tCons (tVar 1) tNil)) (tCB (uLen K) (tCons (tVar 0) tNil)) (tC (.int 8))) (tChain (uEq K) uLe (tCB (uLen K) (tCons (tVar 2) tNil)) (tCB (uLen K) (tCons (tVar 0) tNil)) (tC (.int 3))))))))
theorem p__law_is_fixed {P : Program} {w : World} {K : PySem.W.Frag} {mg : Str → Option Value} {base : Heap} {f : Addr} {k : Nat} {sp__law_signs : Sp} (gd__law_signs : GD P w K mg base k "_law_signs" [] sp__law_signs) (mz_len : mg "len" = none) (cdv : Value) (A : Around) (outer : List Env) (s : Shared) (H : Hp) (E : XK)
    (hr : Room k (A.deeper (envOfC "_law_is_fixed" (defScope s__law_is_fixed) s.heap.objs.size f cdv))) :
    PSs (cxOf CX0 P w K mg base ["_law_text", "_law_letters", "_law_signs_here", "_law_sign"] "_law_is_fixed" (defScope s__law_is_fixed) f cdv A outer s H E).nox (defBody s__law_is_fixed) (T__law_is_fixed K sp__law_signs) :=
  (pss_cons (ps_if (pt_cmpR (ou_eq rfl (room64 hr)) (pv 0) pe_str (nomark _)) (pss_one (ps_ret pe_bl)) pss_nil)
  (pss_cons (ps_setLc (i := 1) (own := [("_law_sign", 3)]) (g := (gName 3)) (tt := (tTest (tOp (uIn K) (tVar 3) (tC (.str (Str.ofString "abcdefghijklmnopqrstuvwxyz")))))) (te := (tVar 3)) rfl sc__law_is_fixed.nd rfl rfl (sw_true rfl rfl rfl (by decide +kernel)) (pi_u rfl (pv 0)) (blkOk_by (own := [("_law_sign", 3)]) (N := ["_law_text", "_law_letters", "_law_signs_here", "_law_sign"]) (sc := defScope s__law_is_fixed) (by decide +kernel)) (fun _ _ _ _ _ => (pg_name (i := 3) sc__law_is_fixed.nd rfl (by first | exact Or.inl rfl | exact Or.inr rfl))) (fun _ _ _ _ _ => (pts_one (pt_cmpR (ou_in rfl (room65 hr)) (pv 3) pe_str (by rfl)))) (fun _ _ _ _ _ => (pv 3)))
  (pss_cons (ps_setLc (i := 2) (own := [("_law_sign", 3)]) (g := (gName 3)) (tt := (tTest (tOp (uIn K) (tVar 3) (tCall sp__law_signs [] E0 tNil)))) (te := (tVar 3)) rfl sc__law_is_fixed.nd rfl rfl (sw_true rfl rfl rfl (by decide +kernel)) (pi_u rfl (pv 0)) (blkOk_by (own := [("_law_sign", 3)]) (N := ["_law_text", "_law_letters", "_law_signs_here", "_law_sign"]) (sc := defScope s__law_is_fixed) (by decide +kernel)) (fun _ _ _ _ _ => (pg_name (i := 3) sc__law_is_fixed.nd rfl (by first | exact Or.inl rfl | exact Or.inr rfl))) (fun _ _ _ _ _ => (pts_one (pt_cmpR (ou_in rfl (room65 hr)) (pv 3) (pe_gd0 gd__law_signs hr (by rfl)) (by rfl)))) (fun _ _ _ _ _ => (pv 3)))
  (pss_one (ps_ret (pe_or (pe_chain (ou_eq rfl (room64 hr)) ou_le (pe_callB (cu_len rfl) (by rfl) mz_len (by decide +kernel) (pa_cons (pv 1) pa_nil)) (pe_callB (cu_len rfl) (by rfl) mz_len (by decide +kernel) (pa_cons (pv 0) pa_nil)) pe_int) (pe_one (pe_chain (ou_eq rfl (room64 hr)) ou_le (pe_callB (cu_len rfl) (by rfl) mz_len (by decide +kernel) (pa_cons (pv 2) pa_nil)) (pe_callB (cu_len rfl) (by rfl) mz_len (by decide +kernel) (pa_cons (pv 0) pa_nil)) pe_int))))))))
/-! _law_bent: slots 0 _law_text, 1 _law_cell_here, 2 _law_others, 3 _law_at, 4 _law_sign -/
abbrev s__law_bent : Stmt := topS 16
theorem sc__law_bent : FnScope ["_law_text", "_law_cell_here", "_law_others", "_law_at", "_law_sign"] ["_law_text", "_law_cell_here"] (defScope s__law_bent) := ⟨rfl, rfl, rfl, by decide +kernel, rfl, by decide +kernel, by decide +kernel⟩
def T__law_bent (K : PySem.W.Frag) : TS :=
  (tSeq (tAsg (tC (.str (Str.ofString "aZ0_ '\"\\<=b`\t\n"))) (gName 2))
  (tSeq (tAsg (tOp uMod (tOp uDiv (tVar 1) (tC (.int 8))) (tOp (uAdd K) (tCB (uLen K) (tCons (tVar 0) tNil)) (tC (.int 1)))) (gName 3))
  (tSeq (tAsg (tOp (rIx K) (tVar 2) (tOp uMod (tOp uDiv (tVar 1) (tC (.int 64))) (tCB (uLen K) (tCons (tVar 2) tNil)))) (gName 4))
  (tRet (tOp (rIx K) (tLst (tCons (tVar 0) (tCons (tOp (uAdd K) (tOp (uAdd K) (tSl (uSl K) (tVar 0) tNoPart (tPart (tVar 3))) (tVar 4)) (tSl (uSl K) (tVar 0) (tPart (tVar 3)) tNoPart)) (tCons (tOp (uAdd K) (tSl (uSl K) (tVar 0) tNoPart (tPart (tVar 3))) (tSl (uSl K) (tVar 0) (tPart (tOp (uAdd K) (tVar 3) (tC (.int 1)))) tNoPart)) (tCons (tOp (uAdd K) (tVar 0) (tVar 0)) (tCons (tC (.str (Str.ofString ""))) (tCons (tOp uMul (tVar 0) (tC (.int 4))) tNil))))))) (tOp uMod (tOp uMod (tVar 1) (tC (.int 8))) (tC (.int 6))))))))
theorem p__law_bent {P : Program} {w : World} {K : PySem.W.Frag} {mg : Str → Option Value} {base : Heap} {f : Addr} {k : Nat} (mz_len : mg "len" = none) (cdv : Value) (A : Around) (outer : List Env) (s : Shared) (H : Hp) (E : XK)
    (hr : Room k (A.deeper (envOfC "_law_bent" (defScope s__law_bent) s.heap.objs.size f cdv))) :
    PSs (cxOf CX0 P w K mg base ["_law_text", "_law_cell_here", "_law_others", "_law_at", "_law_sign"] "_law_bent" (defScope s__law_bent) f cdv A outer s H E).nox (defBody s__law_bent) (T__law_bent K) :=
  (pss_cons (ps_set (i := 2) sc__law_bent.nd rfl (Or.inl rfl) pe_str)
  (pss_cons (ps_set (i := 3) sc__law_bent.nd rfl (Or.inl rfl) (pe_op ou_mod (pe_op ou_div (pv 1) pe_int) (pe_op (ou_add rfl) (pe_callB (cu_len rfl) (by rfl) mz_len (by decide +kernel) (pa_cons (pv 0) pa_nil)) pe_int)))
  (pss_cons (ps_set (i := 4) sc__law_bent.nd rfl (Or.inl rfl) (pe_ix (ou_ix rfl) (pv 2) (pe_op ou_mod (pe_op ou_div (pv 1) pe_int) (pe_callB (cu_len rfl) (by rfl) mz_len (by decide +kernel) (pa_cons (pv 2) pa_nil))) (fun _ _ => rfl)))
  (pss_one (ps_ret (pe_ix (ou_ix rfl) (pe_lst (pa_cons (pv 0) (pa_cons (pe_op (ou_add rfl) (pe_op (ou_add rfl) (pe_slice (ou_sl rfl) (pv 0) po_none (po_some (pv 3))) (pv 4)) (pe_slice (ou_sl rfl) (pv 0) (po_some (pv 3)) po_none)) (pa_cons (pe_op (ou_add rfl) (pe_slice (ou_sl rfl) (pv 0) po_none (po_some (pv 3))) (pe_slice (ou_sl rfl) (pv 0) (po_some (pe_op (ou_add rfl) (pv 3) pe_int)) po_none)) (pa_cons (pe_op (ou_add rfl) (pv 0) (pv 0)) (pa_cons pe_str (pa_cons (pe_op ou_mul (pv 0) pe_int) pa_nil))))))) (pe_op ou_mod (pe_op ou_mod (pv 1) pe_int) pe_int) (fun _ _ => rfl)))))))
/-! law: slots 0 _law_script, 1 _law_k, 2 _law_more, 3 _law_text, 4 _law_good, 5 _law_found, 6 _law_kinded, 7 _law_thing, 8 _law_kind -/
abbrev s_law : Stmt := topS 17
theorem sc_law : FnScope ["_law_script", "_law_k", "_law_more", "_law_text", "_law_good", "_law_found", "_law_kinded", "_law_thing", "_law_kind"] ["_law_script"] (defScope s_law) := ⟨rfl, rfl, rfl, by decide +kernel, rfl, by decide +kernel, by decide +kernel⟩
def T_law (K : PySem.W.Frag) (sp__law_cell : Sp) (sp__law_bent : Sp) (sp__law_fixed_by : Sp) (sp__law_is_fixed : Sp) (sp_is_fixed : Sp) (sp_is_kind : Sp) (sp_kind_of : Sp) (sp_fixed_of : Sp) : TS :=
  (tSeq (tFor (iRng1 (tCons (tCB uMax (tCons (tC (.int 6)) (tCons (tCB (uLen K) (tCons (tVar 0) tNil)) tNil))) tNil)) (gName 1) (tSeq (tAsg (tCall sp__law_cell [] E0 (tCons (tVar 0) (tCons (tVar 1) tNil))) (gName 2))
  (tSeq (tAsg (tCall sp__law_bent [] E0 (tCons (tCall sp__law_fixed_by [] E0 (tCons (tVar 2) tNil)) (tCons (tCall sp__law_cell [] E0 (tCons (tVar 0) (tCons (tOp (uAdd K) (tC (.int 500)) (tVar 1)) tNil))) tNil))) (gName 3))
  (tSeq (tAsg (tCall sp__law_is_fixed [] E0 (tCons (tVar 3) tNil)) (gName 4))
  (tSeq (tAsg (tCall sp_is_fixed [] E0 (tCons (tVar 3) tNil)) (gName 5))
  (tSeq (tIfS (tOr (tNot (tTru K (tCB (rIsi K) (tCons (tVar 5) (tCons (tC (.ty "bool")) tNil))))) (tOr (tTest (tOp (uNe K) (tVar 5) (tVar 4))) (tTest (tOp (uNe K) (tCall sp_is_kind [] E0 (tCons (tOp (uAdd K) (tC (.str (Str.ofString "'"))) (tVar 3)) tNil)) (tVar 4))))) (tRet (tC (.bl false))) tNext)
  (tSeq (tAsg (tOrV (tOp (uIn K) (tVar 3) (tTup (tCons (tC (.str (Str.ofString "NAME"))) (tCons (tC (.str (Str.ofString "NUMBER"))) (tCons (tC (.str (Str.ofString "QUOTE"))) tNil))))) (tAndV (tOp (uEq K) (tSl (uSl K) (tVar 3) tNoPart (tPart (tC (.int 1)))) (tC (.str (Str.ofString "'")))) (tCall sp__law_is_fixed [] E0 (tCons (tSl (uSl K) (tVar 3) (tPart (tC (.int 1))) tNoPart) tNil)))) (gName 6))
  (tSeq (tIfS (tOr (tNot (tTru K (tCB (rIsi K) (tCons (tCall sp_is_kind [] E0 (tCons (tVar 3) tNil)) (tCons (tC (.ty "bool")) tNil))))) (tTest (tOp (uNe K) (tCall sp_is_kind [] E0 (tCons (tVar 3) tNil)) (tVar 6)))) (tRet (tC (.bl false))) tNext)
  (tSeq (tIfS (tAnd (tTru K (tVar 4)) (tOr (tTest (tOp (uNe K) (tCall sp_kind_of [] E0 (tCons (tVar 3) tNil)) (tOp (uAdd K) (tC (.str (Str.ofString "'"))) (tVar 3)))) (tTest (tOp (uNe K) (tCall sp_fixed_of [] E0 (tCons (tOp (uAdd K) (tC (.str (Str.ofString "'"))) (tVar 3)) tNil)) (tVar 3))))) (tRet (tC (.bl false))) tNext)
  (tSeq (tAsg (tOp (rIx K) (tLst (tCons (tC .non) (tCons (tC (.int 5)) (tCons (tC (.bl true)) (tCons (tLst (tCons (tC (.str (Str.ofString "if"))) tNil)) (tCons (tTup (tCons (tC (.str (Str.ofString "if"))) tNil)) (tCons tDNewK (tCons (tLst tNil) tNil)))))))) (tOp uMod (tOp uDiv (tVar 2) (tC (.int 7))) (tC (.int 7)))) (gName 7))
  (tIfS (tOr (tTest (tOp uIsNot (tCall sp_is_fixed [] E0 (tCons (tVar 7) tNil)) (tC (.bl false)))) (tTest (tOp uIsNot (tCall sp_is_kind [] E0 (tCons (tVar 7) tNil)) (tC (.bl false))))) (tRet (tC (.bl false))) tNext)))))))))))
  (tSeq (tFor (iU K (tTup (tCons (tC (.str (Str.ofString "NAME"))) (tCons (tC (.str (Str.ofString "NUMBER"))) (tCons (tC (.str (Str.ofString "QUOTE"))) tNil))))) (gName 8) (tIfS (tOr (tTest (tOp uIsNot (tCall sp_is_kind [] E0 (tCons (tVar 8) tNil)) (tC (.bl true)))) (tOr (tTest (tOp uIsNot (tCall sp_is_fixed [] E0 (tCons (tVar 8) tNil)) (tC (.bl false)))) (tTest (tOp uIsNot (tCall sp_fixed_of [] E0 (tCons (tVar 8) tNil)) (tC .non))))) (tRet (tC (.bl false))) tNext))
  (tRet (tC (.bl true)))))
theorem p_law {P : Program} {w : World} {K : PySem.W.Frag} {mg : Str → Option Value} {base : Heap} {f : Addr} {k : Nat} {sp__law_cell : Sp} (gd__law_cell : GD P w K mg base k "_law_cell" ["_law_script", "_law_k"] sp__law_cell) {sp__law_bent : Sp} (gd__law_bent : GD P w K mg base k "_law_bent" ["_law_text", "_law_cell_here"] sp__law_bent) {sp__law_fixed_by : Sp} (gd__law_fixed_by : GD P w K mg base k "_law_fixed_by" ["_law_cell_here"] sp__law_fixed_by) {sp__law_is_fixed : Sp} (gd__law_is_fixed : GD P w K mg base k "_law_is_fixed" ["_law_text"] sp__law_is_fixed) {sp_is_fixed : Sp} (gd_is_fixed : GD P w K mg base k "is_fixed" ["thing"] sp_is_fixed) {sp_is_kind : Sp} (gd_is_kind : GD P w K mg base k "is_kind" ["thing"] sp_is_kind) {sp_kind_of : Sp} (gd_kind_of : GD P w K mg base k "kind_of" ["word"] sp_kind_of) {sp_fixed_of : Sp} (gd_fixed_of : GD P w K mg base k "fixed_of" ["kind"] sp_fixed_of) (mz_range : mg "range" = none) (mz_max : mg "max" = none) (mz_len : mg "len" = none) (mz_isinstance : mg "isinstance" = none) (mz_bool : mg "bool" = none) (cdv : Value) (A : Around) (outer : List Env) (s : Shared) (H : Hp) (E : XK)
    (hr : Room k (A.deeper (envOfC "law" (defScope s_law) s.heap.objs.size f cdv))) :
    PSs (cxOf CX0 P w K mg base ["_law_script", "_law_k", "_law_more", "_law_text", "_law_good", "_law_found", "_law_kinded", "_law_thing", "_law_kind"] "law" (defScope s_law) f cdv A outer s H E).nox (defBody s_law) (T_law K sp__law_cell sp__law_bent sp__law_fixed_by sp__law_is_fixed sp_is_fixed sp_is_kind sp_kind_of sp_fixed_of) :=
  (pss_cons (ps_for PassesOwn.never rfl (pi_range1 (by rfl) mz_range (pa_cons (pe_callB (cu_max rfl) (by rfl) mz_max (by decide +kernel) (pa_cons pe_int (pa_cons (pe_callB (cu_len rfl) (by rfl) mz_len (by decide +kernel) (pa_cons (pv 0) pa_nil)) pa_nil))) pa_nil)) (pg_name (i := 1) sc_law.nd rfl (by first | exact Or.inl rfl | exact Or.inr rfl)) (pss_cons (ps_set (i := 2) sc_law.nd rfl (Or.inl rfl) (pe_gd gd__law_cell hr (by rfl) (pa_cons (pv 0) (pa_cons (pv 1) pa_nil))))
  (pss_cons (ps_set (i := 3) sc_law.nd rfl (Or.inl rfl) (pe_gd gd__law_bent hr (by rfl) (pa_cons (pe_gd gd__law_fixed_by hr (by rfl) (pa_cons (pv 2) pa_nil)) (pa_cons (pe_gd gd__law_cell hr (by rfl) (pa_cons (pv 0) (pa_cons (pe_op (ou_add rfl) pe_int (pv 1)) pa_nil))) pa_nil))))
  (pss_cons (ps_set (i := 4) sc_law.nd rfl (Or.inl rfl) (pe_gd gd__law_is_fixed hr (by rfl) (pa_cons (pv 3) pa_nil)))
  (pss_cons (ps_set (i := 5) sc_law.nd rfl (Or.inl rfl) (pe_gd gd_is_fixed hr (by rfl) (pa_cons (pv 3) pa_nil)))
  (pss_cons (ps_if (PW.pt (pw_or (pt_not (pt_any rfl (pe_callB (cu_isi rfl) (by rfl) mz_isinstance (by decide +kernel) (pa_cons (pv 5) (pa_cons (pe_bltn (v := .ty "bool") (by rfl) mz_bool (by decide +kernel) rfl) pa_nil))))) (pw_or (pt_cmpR (ou_ne rfl (room64 hr)) (pv 5) (pv 4) (nomark _)) (pw_or1 (pt_cmpR (ou_ne rfl (room64 hr)) (pe_gd gd_is_kind hr (by rfl) (pa_cons (pe_op (ou_add rfl) pe_str (pv 3)) pa_nil)) (pv 4) (nomark _)))))) (pss_one (ps_ret pe_bl)) pss_nil)
  (pss_cons (ps_set (i := 6) sc_law.nd rfl (Or.inl rfl) (pe_or (pe_cmpR (ou_in rfl (room65 hr)) (pv 3) (pe_tup (pa_cons pe_str (pa_cons pe_str (pa_cons pe_str pa_nil)))) (by rfl)) (pe_one (pe_and (pe_cmpR (ou_eq rfl (room64 hr)) (pe_slice (ou_sl rfl) (pv 3) po_none (po_some pe_int)) pe_str (nomark _)) (pe_one (pe_gd gd__law_is_fixed hr (by rfl) (pa_cons (pe_slice (ou_sl rfl) (pv 3) (po_some pe_int) po_none) pa_nil)))))))
  (pss_cons (ps_if (PW.pt (pw_or (pt_not (pt_any rfl (pe_callB (cu_isi rfl) (by rfl) mz_isinstance (by decide +kernel) (pa_cons (pe_gd gd_is_kind hr (by rfl) (pa_cons (pv 3) pa_nil)) (pa_cons (pe_bltn (v := .ty "bool") (by rfl) mz_bool (by decide +kernel) rfl) pa_nil))))) (pw_or1 (pt_cmpR (ou_ne rfl (room64 hr)) (pe_gd gd_is_kind hr (by rfl) (pa_cons (pv 3) pa_nil)) (pv 6) (nomark _))))) (pss_one (ps_ret pe_bl)) pss_nil)
  (pss_cons (ps_if (PW.pt (pw_and (pt_any rfl (pv 4)) (pw_and1 (PW.pt (pw_or (pt_cmpR (ou_ne rfl (room64 hr)) (pe_gd gd_kind_of hr (by rfl) (pa_cons (pv 3) pa_nil)) (pe_op (ou_add rfl) pe_str (pv 3)) (nomark _)) (pw_or1 (pt_cmpR (ou_ne rfl (room64 hr)) (pe_gd gd_fixed_of hr (by rfl) (pa_cons (pe_op (ou_add rfl) pe_str (pv 3)) pa_nil)) (pv 3) (nomark _)))))))) (pss_one (ps_ret pe_bl)) pss_nil)
  (pss_cons (ps_set (i := 7) sc_law.nd rfl (Or.inl rfl) (pe_ix (ou_ix rfl) (pe_lst (pa_cons pe_non (pa_cons pe_int (pa_cons pe_bl (pa_cons (pe_lst (pa_cons pe_str pa_nil)) (pa_cons (pe_tup (pa_cons pe_str pa_nil)) (pa_cons pe_dnewK (pa_cons (pe_lst pa_nil) pa_nil)))))))) (pe_op ou_mod (pe_op ou_div (pv 2) pe_int) pe_int) (fun _ _ => rfl)))
  (pss_one (ps_if (PW.pt (pw_or (pt_cmpR ou_isnot (pe_gd gd_is_fixed hr (by rfl) (pa_cons (pv 7) pa_nil)) pe_bl (nomark _)) (pw_or1 (pt_cmpR ou_isnot (pe_gd gd_is_kind hr (by rfl) (pa_cons (pv 7) pa_nil)) pe_bl (nomark _))))) (pss_one (ps_ret pe_bl)) pss_nil))))))))))))
  (pss_cons (ps_for PassesOwn.never rfl (pi_u rfl (pe_tup (pa_cons pe_str (pa_cons pe_str (pa_cons pe_str pa_nil))))) (pg_name (i := 8) sc_law.nd rfl (by first | exact Or.inl rfl | exact Or.inr rfl)) (pss_one (ps_if (PW.pt (pw_or (pt_cmpR ou_isnot (pe_gd gd_is_kind hr (by rfl) (pa_cons (pv 8) pa_nil)) pe_bl (nomark _)) (pw_or (pt_cmpR ou_isnot (pe_gd gd_is_fixed hr (by rfl) (pa_cons (pv 8) pa_nil)) pe_bl (nomark _)) (pw_or1 (pt_cmpR ou_isnot (pe_gd gd_fixed_of hr (by rfl) (pa_cons (pv 8) pa_nil)) pe_non (nomark _)))))) (pss_one (ps_ret pe_bl)) pss_nil)))
  (pss_one (ps_ret pe_bl))))
local macro_rules | `(tactic| walk_at "kitb") => `(tactic| first | exact kb_NoneType_str | exact kb_NoneType_bool | exact kb_NoneType_int | exact kb_NoneType_list | exact kb_NoneType_tuple | exact kb_NoneType_dict | exact kb_bool_str | exact kb_bool_bool | exact kb_bool_int | exact kb_bool_list | exact kb_bool_tuple | exact kb_bool_dict | exact kb_int_str | exact kb_int_bool | exact kb_int_int | exact kb_int_list | exact kb_int_tuple | exact kb_int_dict | exact kb_str_str | exact kb_str_bool | exact kb_str_int | exact kb_str_list | exact kb_str_tuple | exact kb_str_dict | exact kb_list_str | exact kb_list_bool | exact kb_list_int | exact kb_list_list | exact kb_list_tuple | exact kb_list_dict | exact kb_tuple_str | exact kb_tuple_bool | exact kb_tuple_int | exact kb_tuple_list | exact kb_tuple_tuple | exact kb_tuple_dict | exact kb_dict_str | exact kb_dict_bool | exact kb_dict_int | exact kb_dict_list | exact kb_dict_tuple | exact kb_dict_dict)
/-! the words that run a reading: "sem" an expression, "sems" arguments, "ops" an operation, "side" what is left -/
local macro_rules | `(tactic| walk_at "side") => `(tactic| first | assumption | decide | omega | (unfold sizeLine; omega) | (unfold sizeLine; simp only [List.length_map, List.length_append, List.length_cons, List.length_nil]; omega))
local macro_rules | `(tactic| walk_at "ops") => `(tactic| first
  | exact os_addI | exact os_sub | exact os_lt | exact os_le | exact os_gt | exact os_ge | exact os_eqI | exact os_neI | exact os_eqT | exact os_neT | exact os_eqB | exact os_neB
  | exact os_neScr | exact os_inC | exact os_notinC | exact os_inTT | exact os_in2 | exact os_in3 | exact os_notin2 | exact os_notinTT | exact os_inTL | exact os_notinTL | exact os_isN | exact os_isnotN | exact os_isB | exact os_isnotB
  | (apply os_mod; walk_at "side") | (apply os_div; walk_at "side") | (apply os_mul; walk_at "mul") | (apply os_addT; walk_at "side") | (apply os_addL; walk_at "side") | (apply os_addU; walk_at "side")
  | (apply os_ixL; walk_at "ix") | (apply os_ixU; walk_at "ix") | (apply os_ixT; (· walk_at "ix"); (· walk_at "side")) | (apply os_ixS; walk_at "ix"))
local macro_rules | `(tactic| walk_at "mul") => `(tactic| first | exact Or.inr ⟨by decide, by decide⟩ | exact Or.inl ⟨by decide, by decide⟩ | exact Or.inl ⟨by omega, by omega⟩ | exact Or.inr ⟨by omega, by omega⟩)
local macro_rules | `(tactic| walk_at "ix") => `(tactic| first | assumption | rfl)
local macro_rules | `(tactic| walk_at "calls") => `(tactic| first
  | (apply cs_lenT; walk_at "side") | exact cs_lenL | exact cs_lenU | exact cs_lenS | exact cs_allM | exact cs_all | exact cs_max | exact cs_min | (apply cs_isi; (· rfl); (· walk_at "kitb")))
local macro_rules | `(tactic| walk_at "sls") => `(tactic| first | (apply ss_txt; walk_at "side") | exact ss_lst | exact ss_tup)
local macro_rules | `(tactic| walk_at "part") => `(tactic| first | exact so_none | (apply so_some; walk_at "sem"))
local macro_rules | `(tactic| walk_at "sems") => `(tactic| first | exact sa_nil | (apply sa_cons; (· walk_at "sem"); (· walk_at "sems")))
local macro_rules | `(tactic| walk_at "iter") => `(tactic| first | (apply si_u; (· walk_at "sem"); (· rfl)) | (apply si_range1Z; (· walk_at "sems"); (· walk_at "side"); (· walk_at "side")))
local macro_rules | `(tactic| walk_at "mts") => `(tactic| first | (apply ms_joinM; walk_at "side") | (apply ms_join; walk_at "side") | (apply ms_split; (· walk_at "side"); (· walk_at "side")))
local macro_rules | `(tactic| walk_at "test") => `(tactic| first
  | exact st_yes | (apply st_and; (· walk_at "test"); (· (intro; walk_at "test"))) | (apply st_or; (· walk_at "test"); (· (intro; walk_at "test"))) | (apply st_not; walk_at "test")
  | (apply st_test; walk_at "sem") | (apply st_bl; walk_at "sem") | (apply st_tru; (· walk_at "sem"); (· first | exact trivial | walk_at "side")))
local macro_rules | `(tactic| walk_at "sem") => `(tactic| first
  | exact s_int | exact s_ty | exact s_str | exact s_bl | exact s_non | (apply s_var; rfl) | (apply s_c; assumption)
  | (apply s_op; (· walk_at "sem"); (· walk_at "sem"); (· walk_at "ops"))
  | (apply s_un; (· walk_at "sem"); (· exact us_neg))
  | (apply s_chain; (· walk_at "sem"); (· walk_at "sem"); (· walk_at "ops"); (· (intro; walk_at "sem")); (· (intro; walk_at "ops")))
  | (apply s_andB; (· walk_at "sem"); (· (intro; walk_at "sem")))
  | (apply s_orB; (· walk_at "sem"); (· (intro; walk_at "sem")))
  | (apply s_notB; walk_at "sem")
  | (apply s_if; (· walk_at "test"); (· (intro; walk_at "sem")); (· (intro; walk_at "sem")))
  | (apply s_tup; (· walk_at "sems"); (· walk_at "side"))
  | (apply s_lst; (· walk_at "sems"); (· walk_at "side"))
  | (apply s_cb; (· walk_at "sems"); (· walk_at "calls"))
  | (apply s_sl; (· walk_at "sem"); (· walk_at "part"); (· walk_at "part"); (· walk_at "sls"))
  | (apply s_m1; (· walk_at "sem"); (· walk_at "sem"); (· walk_at "mts"))
  | (apply s_call; (· walk_at "sems"); (· walk_at "fn"))
  | exact s_dnew
  | (apply s_ofN; apply sn_lcM; (· walk_at "iter"); (· walk_at "side"); (· (intro x hx; walk_at "sem")))
  | (apply s_ofN; apply sn_lcF; (· walk_at "iter"); (· walk_at "side"); (· (intro x hx; walk_at "test")); (· (intro x hx _; walk_at "sem"))))
abbrev PF (d : Dat) : Post := { nx := fun _ => d = .non, rt := fun d' => d' = d }
/-! ### is_of -/
def isOf (t s : List Nat) (m : Int) : Bool := (decide (1 ≤ (t.length : Int)) && decide ((t.length : Int) ≤ m)) && t.all fun c => decide (c ∈ s)
def R_is_of (ds : List Dat) (d : Dat) : Prop := ∃ t s m, ds = [.txt t, .txt s, .int m] ∧ t.length ≤ sizeLine ∧ d = .bl (isOf t s m)
theorem r_is_of {t s : List Nat} {m : Int} (h : t.length ≤ sizeLine) : R_is_of [.txt t, .txt s, .int m] (.bl (isOf t s m)) := ⟨t, s, m, rfl, h, rfl⟩
theorem h_is_of {K : PySem.W.Frag} (ds : List Dat) (d : Dat) (h : R_is_of ds d) : SemS K (T_is_of K) (slots 4 ds) (PF d) := by
  obtain ⟨t, s, m, rfl, hl, rfl⟩ := h
  apply ss_ret
  · walk_at "sem"
  · rfl
local macro_rules | `(tactic| walk_at "fn") => `(tactic| (apply r_is_of; walk_at "side"))
/-! ### is_fixed -/
def letters : List Nat := (Str.ofString "abcdefghijklmnopqrstuvwxyz").cps.toList
def signs : List Nat := (Str.ofString "!#$&()*+,-./:;<=>?@\x5b]^{|}~").cps.toList
def isFixed (t : List Nat) : Bool := isOf t letters 8 || isOf t signs 3
def fixedD : Dat → Bool
  | .txt t => isFixed t
  | _ => false
def R_is_fixed (ds : List Dat) (d : Dat) : Prop := ∃ x ty, ds = [x] ∧ tyD x = some ty ∧ txtFits x ∧ d = .bl (fixedD x)
theorem r_is_fixedT {t : List Nat} (h : t.length ≤ sizeLine) : R_is_fixed [.txt t] (.bl (isFixed t)) := ⟨_, _, rfl, rfl, h, rfl⟩
theorem h_is_fixed {K : PySem.W.Frag} {gL gM gS gN : V} (hL : ∀ G, DR K G gL (.txt letters)) (hM : ∀ G, DR K G gM (.int 8)) (hS : ∀ G, DR K G gS (.txt signs)) (hN : ∀ G, DR K G gN (.int 3))
    (ds : List Dat) (d : Dat) (h : R_is_fixed ds d) : SemS K (T_is_fixed K (spD K R_is_of) gL gM gS gN) (slots 1 ds) (PF d) := by
  obtain ⟨x, ty, rfl, ht, hf, rfl⟩ := h
  cases x with
  | txt t =>
    have hf : t.length ≤ sizeLine := hf
    apply ss_ret
    · walk_at "sem"
    · rfl
  | ins C fs => cases ht
  | scr ns => cases ht
  | ty n => cases ht
  | cls n => cases ht
  | _ =>
    refine ss_ret (s_andB (k := false) (l := false) ?_ (fun h => by cases h)) rfl
    walk_at "sem"
/-! ### is_kind -/
def open3 : List (List Nat) := [(Str.ofString "NAME").cps.toList, (Str.ofString "NUMBER").cps.toList, (Str.ofString "QUOTE").cps.toList]
def quo : List Nat := (Str.ofString "'").cps.toList
def isKind (t : List Nat) : Bool := decide (t ∈ open3) || (decide (cutL t none (some 1) = quo) && isFixed (cutL t (some 1) none))
def kindD : Dat → Bool
  | .txt t => isKind t
  | _ => false
def R_is_kind (ds : List Dat) (d : Dat) : Prop := ∃ x ty, ds = [x] ∧ tyD x = some ty ∧ txtFits x ∧ d = .bl (kindD x)
theorem r_is_kindT {t : List Nat} (h : t.length ≤ sizeLine) : R_is_kind [.txt t] (.bl (isKind t)) := ⟨_, _, rfl, rfl, h, rfl⟩
local macro_rules | `(tactic| walk_at "fn") => `(tactic| (apply r_is_fixedT; walk_at "side"))
theorem h_is_kind {K : PySem.W.Frag} {gO : V} (hO : ∀ G, DR K G gO (.tup (open3.map .txt)))
    (ds : List Dat) (d : Dat) (h : R_is_kind ds d) : SemS K (T_is_kind K (spD K R_is_fixed) gO) (slots 1 ds) (PF d) := by
  obtain ⟨x, ty, rfl, ht, hf, rfl⟩ := h
  cases x with
  | txt t =>
    have hf : t.length ≤ sizeLine := hf
    have hc := cutL_len t (some 1) none
    apply ss_seq
    apply ss_if
    · walk_at "test"
    · intro h; cases h
    · intro h
      apply ss_next
      apply ss_ret
      · walk_at "sem"
      · rfl
  | ins C fs => cases ht
  | scr ns => cases ht
  | ty n => cases ht
  | cls n => cases ht
  | _ =>
    apply ss_seq
    apply ss_if
    · walk_at "test"
    · intro h
      apply ss_ret
      · walk_at "sem"
      · rfl
    · intro h; cases h
/-! ### kind_of, fixed_of -/
def R_kind_of (ds : List Dat) (d : Dat) : Prop := ∃ t, ds = [.txt t] ∧ t.length ≤ 1000 ∧ d = .txt (quo ++ t)
theorem r_kind_of {t : List Nat} (h : t.length ≤ 1000) : R_kind_of [.txt t] (.txt (quo ++ t)) := ⟨_, rfl, h, rfl⟩
theorem quo1 : quo = [39] := by decide +kernel
theorem h_kind_of {K : PySem.W.Frag} (ds : List Dat) (d : Dat) (h : R_kind_of ds d) : SemS K (T_kind_of K) (slots 1 ds) (PF d) := by
  obtain ⟨t, rfl, hl, rfl⟩ := h
  have hq : quo.length = 1 := by rw [quo1]; rfl
  apply ss_ret
  · apply s_op
    · exact s_str
    · walk_at "sem"
    · apply os_addT
      show quo.length + t.length ≤ sizeLine
      unfold sizeLine
      omega
  · rfl
def fixedOf (t : List Nat) : Dat := if decide (t ∈ open3) then .non else .txt (cutL t (some 1) none)
def R_fixed_of (ds : List Dat) (d : Dat) : Prop := ∃ t, ds = [.txt t] ∧ t.length ≤ sizeLine ∧ d = fixedOf t
theorem r_fixed_of {t : List Nat} (h : t.length ≤ sizeLine) : R_fixed_of [.txt t] (fixedOf t) := ⟨_, rfl, h, rfl⟩
theorem h_fixed_of {K : PySem.W.Frag} {gO : V} (hO : ∀ G, DR K G gO (.tup (open3.map .txt))) (ds : List Dat) (d : Dat) (h : R_fixed_of ds d) : SemS K (T_fixed_of K gO) (slots 1 ds) (PF d) := by
  obtain ⟨t, rfl, hl, rfl⟩ := h
  apply ss_ret
  · walk_at "sem"
  · rfl

/-! ### the law's cells -/
def cell0 (ns : List Int) (k : Int) : Int := if ns.isEmpty then 7919 * k + 11 else ns.getD (k % (ns.length : Int)).toNat 0 * 48271 + 104729 * k + k / (ns.length : Int) * 7919
def cellF (ns : List Int) (k : Int) : Int :=
  (cell0 ns k % 2147483647 * (cell0 ns k % 2147483647) % 2147483629 * (cell0 ns k % 2147483647 * (cell0 ns k % 2147483647) % 2147483629) + 69621 * (cell0 ns k % 2147483647 * (cell0 ns k % 2147483647) % 2147483629) + k) % 2147483587
theorem cellF_lo (ns : List Int) (k : Int) : 0 ≤ cellF ns k := Int.emod_nonneg _ (by decide)
theorem cellF_hi (ns : List Int) (k : Int) : cellF ns k < 2147483587 := Int.emod_lt_of_pos _ (by decide)
def R__law_cell (ds : List Dat) (d : Dat) : Prop := ∃ ns k, ds = [.scr ns, .int k] ∧ ns.length ≤ 63 ∧ 0 ≤ k ∧ k ≤ 1000000 ∧ d = .int (cellF ns k)
theorem r__law_cell {ns : List Int} {k : Int} (h : ns.length ≤ 63) (h0 : 0 ≤ k) (h1 : k ≤ 1000000) : R__law_cell [.scr ns, .int k] (.int (cellF ns k)) := ⟨ns, k, rfl, h, h0, h1, rfl⟩
theorem h__law_cell {K : PySem.W.Frag} (ds : List Dat) (d : Dat) (h : R__law_cell ds d) : SemS K (T__law_cell K) (slots 4 ds) (PF d) := by
  obtain ⟨ns, k, rfl, hl, h0, h1, rfl⟩ := h
  have main : ∀ ρ', ρ'[1]? = some (Sl.dat (.int k)) → ρ'[2]? = some (Sl.dat (.int (cell0 ns k))) → ρ'.length = 4 → SemS K (tSeq (tAsg (tOp uMod (tVar 2) (tC (.int 2147483647))) (gName 3))
      (tSeq (tAsg (tOp uMod (tOp uMul (tVar 3) (tVar 3)) (tC (.int 2147483629))) (gName 3))
      (tRet (tOp uMod (tOp (uAdd K) (tOp (uAdd K) (tOp uMul (tVar 3) (tVar 3)) (tOp uMul (tC (.int 69621)) (tVar 3))) (tVar 1)) (tC (.int 2147483587)))))) ρ' (PF (.int (cellF ns k))) := by
    intro ρ' h1' h2' h3'
    obtain ⟨s0, s1, s2, s3, rfl⟩ : ∃ s0 s1 s2 s3, ρ' = [s0, s1, s2, s3] := by
      match ρ', h3' with
      | [a, b, c, d], _ => exact ⟨a, b, c, d, rfl⟩
    cases h1'
    cases h2'
    apply ss_seq
    apply ss_asg
    · walk_at "sem"
    apply ss_seq
    apply ss_asg
    · walk_at "sem"
    apply ss_ret
    · walk_at "sem"
    · rfl
  apply ss_seq
  apply ss_asg
  · walk_at "sem"
  apply ss_seq
  apply ss_if
  · walk_at "test"
  · intro hb
    have hne : ns.isEmpty = false := by
      cases ns with
      | nil => cases hb
      | cons a r => rfl
    have hp : 0 < ns.length := by
      cases ns with
      | nil => cases hb
      | cons a r => exact Nat.succ_pos _
    have hx : atI ns (k % (ns.length : Int)) = some (ns.getD (k % (ns.length : Int)).toNat 0) := atI_getD 0 (Int.emod_nonneg _ (by omega)) (Int.emod_lt_of_pos _ (by omega))
    apply ss_seq
    apply ss_asg
    · walk_at "sem"
    apply ss_asg
    · walk_at "sem"
    refine main _ rfl ?_ rfl
    unfold cell0
    rw [hne]
    rfl
  · intro hb
    have hne : ns.isEmpty = true := by
      cases ns with
      | nil => rfl
      | cons a r => cases hb
    apply ss_next
    refine main _ rfl ?_ rfl
    unfold cell0
    rw [hne]
    rfl

/-! ### _law_signs, _law_fixed_by -/
def R__law_signs (ds : List Dat) (d : Dat) : Prop := ds = [] ∧ d = .txt signs
theorem h__law_signs {K : PySem.W.Frag} (ds : List Dat) (d : Dat) (h : R__law_signs ds d) : SemS K (T__law_signs K) (slots 0 ds) (PF d) := by
  obtain ⟨rfl, rfl⟩ := h
  apply ss_ret
  · walk_at "sem"
  · rfl
def usual : List (List Nat) := (Txt.split (Str.ofString "if in then a ab < <= = == ( ) - -> + zz no > >=") (Str.ofString " ")).map fun s => s.cps.toList
theorem usual_len : usual.length = 18 := by decide +kernel
theorem usual_fit : ∀ t ∈ usual, t.length ≤ 8 := by decide +kernel
theorem letters_len : letters.length = 26 := by decide +kernel
theorem signs_len : signs.length = 26 := by decide +kernel
def emp : List Nat := (Str.ofString "").cps.toList
theorem emp_nil : emp = [] := by decide +kernel
def fixedBy (c : Int) : List Nat :=
  if decide (0 < c % 3) then usual.getD (c / 3 % 18).toNat []
  else if decide (c / 3 % 2 = 0) then joinL emp ((List.range (1 + c / 2000 % 8).toNat).map fun k : Nat => [letters.getD ((c / 6 + (k : Int) * (1 + c / 78 % 25)) % 26).toNat 0])
  else joinL emp ((List.range (1 + c / 5000 % 3).toNat).map fun k : Nat => [signs.getD ((c / 6 + (k : Int) * (c / 162 % 26)) % 26).toNat 0])
theorem joinL_len {α : Type} (f : α → List Nat) (m : Nat) : ∀ xs : List α, (∀ x ∈ xs, (f x).length ≤ m) → (joinL emp (xs.map f)).length ≤ xs.length * m
  | [], _ => Nat.zero_le _
  | [x], h => by
    have h1 := h x List.mem_cons_self
    show (f x).length ≤ 1 * m
    omega
  | x :: y :: r, h => by
    have h1 := h x List.mem_cons_self
    have h2 := joinL_len f m (y :: r) fun z hz => h z (List.mem_cons_of_mem _ hz)
    show (f x ++ emp ++ joinL emp ((y :: r).map f)).length ≤ (r.length + 1 + 1) * m
    rw [emp_nil] at h2 ⊢
    rw [List.length_append, List.length_append, Nat.succ_mul]
    rw [List.length_cons] at h2
    simp only [List.length_nil]
    omega
theorem getD_mem_or {α : Type} (P : α → Prop) (d : α) (hd : P d) : ∀ (xs : List α) (i : Nat), (∀ x ∈ xs, P x) → P (xs.getD i d)
  | [], i, _ => by cases i <;> exact hd
  | x :: r, 0, h => h x List.mem_cons_self
  | x :: r, i + 1, h => getD_mem_or P d hd r i fun y hy => h y (List.mem_cons_of_mem _ hy)
theorem fixedBy_len (c : Int) : (fixedBy c).length ≤ 8 := by
  unfold fixedBy
  split
  · exact getD_mem_or (fun t => t.length ≤ 8) [] (Nat.zero_le _) usual _ usual_fit
  · split
    · refine Nat.le_trans (joinL_len _ 1 _ fun x _ => Nat.le_refl _) ?_
      rw [List.length_range]; omega
    · refine Nat.le_trans (joinL_len _ 1 _ fun x _ => Nat.le_refl _) ?_
      rw [List.length_range]; omega
def R__law_fixed_by (ds : List Dat) (d : Dat) : Prop := ∃ c, ds = [.int c] ∧ 0 ≤ c ∧ c < 2147483648 ∧ d = .txt (fixedBy c)
theorem r__law_fixed_by {c : Int} (h0 : 0 ≤ c) (h1 : c < 2147483648) : R__law_fixed_by [.int c] (.txt (fixedBy c)) := ⟨c, rfl, h0, h1, rfl⟩
theorem splitE : (Txt.split (strL (Str.ofString "if in then a ab < <= = == ( ) - -> + zz no > >=").cps.toList) (strL (Str.ofString " ").cps.toList)) = Txt.split (Str.ofString "if in then a ab < <= = == ( ) - -> + zz no > >=") (Str.ofString " ") := by
  unfold strL
  rw [Array.toArray_toList, Array.toArray_toList]
local macro_rules | `(tactic| walk_at "fn") => `(tactic| exact ⟨rfl, rfl⟩)
theorem h__law_fixed_by {K : PySem.W.Frag} (ds : List Dat) (d : Dat) (h : R__law_fixed_by ds d) : SemS K (T__law_fixed_by K (spD K R__law_signs)) (slots 5 ds) (PF d) := by
  obtain ⟨c, rfl, h0, h1, rfl⟩ := h
  have hU : (Dat.lst ((Txt.split (strL (Str.ofString "if in then a ab < <= = == ( ) - -> + zz no > >=").cps.toList) (strL (Str.ofString " ").cps.toList)).map fun s => .txt s.cps.toList)) = .lst (usual.map .txt) := by
    rw [splitE]
    unfold usual
    rw [List.map_map]
    rfl
  have hul := usual_len
  have hll := letters_len
  have hsl := signs_len
  apply ss_seq
  apply ss_asg
  · walk_at "sem"
  apply ss_seq
  refine ss_asg (d := .lst (usual.map .txt)) (s_is (s_m1 s_str s_str (ms_split (by decide +kernel) (by decide +kernel))) hU) ?_
  apply ss_seq
  apply ss_if
  · walk_at "test"
  · intro hb
    have hx : atI (usual.map Dat.txt) (c / 3 % 18) = some (.txt (usual.getD (c / 3 % 18).toNat [])) := atI_mapD _ [] (by omega) (by omega)
    apply ss_ret
    · walk_at "sem"
    · show Dat.txt _ = Dat.txt (fixedBy c)
      unfold fixedBy
      rw [if_pos hb]
  · intro hb
    apply ss_next
    apply ss_seq
    apply ss_if
    · walk_at "test"
    · intro hb2
      apply ss_seq
      apply ss_asg
      · walk_at "sem"
      apply ss_ret
      · apply s_m1
        · exact s_str
        · apply s_ofN
          apply sn_lcM
          · walk_at "iter"
          · rw [List.length_range]; unfold sizeLine; omega
          · intro k hk
            have hk2 := List.mem_range.mp hk
            have hx : atI letters ((c / 6 + (k : Int) * (1 + c / 78 % 25)) % 26) = some (letters.getD ((c / 6 + (k : Int) * (1 + c / 78 % 25)) % 26).toNat 0) := atI_getD 0 (by omega) (by omega)
            apply s_op
            · apply s_var; rfl
            · apply s_op
              · apply s_op
                · walk_at "sem"
                · apply s_op
                  · walk_at "sem"
                  · walk_at "sem"
                  · apply os_mul
                    exact Or.inr ⟨by omega, by omega⟩
                · walk_at "ops"
              · walk_at "sem"
              · walk_at "ops"
            · apply os_ixT
              · exact hx
              · show letters.length ≤ sizeLine
                rw [hll]; decide
        · apply ms_joinM
          have := sum_len_le (fun k : Nat => [letters.getD ((c / 6 + (k : Int) * (1 + c / 78 % 25)) % 26).toNat 0]) 1 (List.range (1 + c / 2000 % 8).toNat) fun _ _ => Nat.le_refl _
          rw [List.length_range] at this ⊢
          have e0 : (Str.ofString "").cps.toList.length = 0 := by decide +kernel
          rw [e0]
          omega
      · show Dat.txt _ = Dat.txt (fixedBy c)
        unfold fixedBy
        rw [if_neg (by rw [hb]; decide), if_pos hb2]
        rfl
    · intro hb2
      apply ss_next
      apply ss_seq
      apply ss_asg
      · walk_at "sem"
      apply ss_ret
      · apply s_m1
        · exact s_str
        · apply s_ofN
          apply sn_lcM
          · walk_at "iter"
          · rw [List.length_range]; unfold sizeLine; omega
          · intro k hk
            have hk2 := List.mem_range.mp hk
            have hx : atI signs ((c / 6 + (k : Int) * (c / 162 % 26)) % 26) = some (signs.getD ((c / 6 + (k : Int) * (c / 162 % 26)) % 26).toNat 0) := atI_getD 0 (by omega) (by omega)
            apply s_op
            · walk_at "sem"
            · apply s_op
              · apply s_op
                · walk_at "sem"
                · apply s_op
                  · walk_at "sem"
                  · walk_at "sem"
                  · apply os_mul
                    exact Or.inr ⟨by omega, by omega⟩
                · walk_at "ops"
              · walk_at "sem"
              · walk_at "ops"
            · apply os_ixT
              · exact hx
              · rw [hsl]; decide
        · apply ms_joinM
          have := sum_len_le (fun k : Nat => [signs.getD ((c / 6 + (k : Int) * (c / 162 % 26)) % 26).toNat 0]) 1 (List.range (1 + c / 5000 % 3).toNat) fun _ _ => Nat.le_refl _
          rw [List.length_range] at this ⊢
          have e0 : (Str.ofString "").cps.toList.length = 0 := by decide +kernel
          rw [e0]
          omega
      · show Dat.txt _ = Dat.txt (fixedBy c)
        unfold fixedBy
        rw [if_neg (by rw [hb]; decide), if_neg (by rw [hb2]; decide)]
        rfl
/-! ### _law_is_fixed -/
def lawFixed (t : List Nat) : Bool :=
  if decide (t = emp) then false else
  (decide (((t.filter fun c => decide (c ∈ letters)).length : Int) = (t.length : Int)) && decide ((t.length : Int) ≤ 8)) || (decide (((t.filter fun c => decide (c ∈ signs)).length : Int) = (t.length : Int)) && decide ((t.length : Int) ≤ 3))
def R__law_is_fixed (ds : List Dat) (d : Dat) : Prop := ∃ t, ds = [.txt t] ∧ t.length ≤ sizeLine ∧ d = .bl (lawFixed t)
theorem r__law_is_fixed {t : List Nat} (h : t.length ≤ sizeLine) : R__law_is_fixed [.txt t] (.bl (lawFixed t)) := ⟨t, rfl, h, rfl⟩
theorem h__law_is_fixed {K : PySem.W.Frag} (ds : List Dat) (d : Dat) (h : R__law_is_fixed ds d) : SemS K (T__law_is_fixed K (spD K R__law_signs)) (slots 4 ds) (PF d) := by
  obtain ⟨t, rfl, hl, rfl⟩ := h
  apply ss_seq
  apply ss_if
  · walk_at "test"
  · intro hb
    apply ss_ret
    · walk_at "sem"
    · show Dat.bl false = Dat.bl (lawFixed t)
      unfold lawFixed
      rw [if_pos (show decide (t = emp) = true from hb)]
  · intro hb
    apply ss_next
    apply ss_seq
    apply ss_asg
    · walk_at "sem"
    apply ss_seq
    apply ss_asg
    · walk_at "sem"
    apply ss_ret
    · walk_at "sem"
    · show Dat.bl _ = Dat.bl (lawFixed t)
      unfold lawFixed
      rw [if_neg (by intro z; rw [show decide (t = emp) = decide (t = (Str.ofString "").cps.toList) from rfl, hb] at z; cases z), List.length_map, List.length_map]
      rfl

/-! ### _law_bent -/
def others : List Nat := (Str.ofString "aZ0_ '\"\\<=b`\t\n").cps.toList
theorem others_len : others.length = 14 := by decide +kernel
def bentL (t : List Nat) (at' : Int) (sg : Nat) : List (List Nat) :=
  [t, (cutL t none (some at') ++ [sg]) ++ cutL t (some at') none, cutL t none (some at') ++ cutL t (some (at' + 1)) none, t ++ t, emp, (List.replicate 4 t).flatten]
def bent (t : List Nat) (c : Int) : List Nat := (bentL t (c / 8 % ((t.length : Int) + 1)) (others.getD (c / 64 % (others.length : Int)).toNat 0)).getD (c % 8 % 6).toNat []
theorem bent_len (t : List Nat) (c : Int) (h : t.length ≤ 100) : (bent t c).length ≤ 1000 := by
  unfold bent
  refine getD_mem_or (fun u : List Nat => u.length ≤ 1000) [] (Nat.zero_le _) _ _ ?_
  intro u hu
  unfold bentL at hu
  have hl : ∀ lo hi, (cutL t lo hi).length ≤ 100 := fun lo hi => Nat.le_trans (cutL_len t lo hi) h
  simp only [List.mem_cons, List.not_mem_nil, or_false] at hu
  rcases hu with rfl | rfl | rfl | rfl | rfl | rfl
  · omega
  · have h1 := hl none (some (c / 8 % ((t.length : Int) + 1)))
    have h2 := hl (some (c / 8 % ((t.length : Int) + 1))) none
    simp only [List.length_append, List.length_cons, List.length_nil]
    omega
  · have h1 := hl none (some (c / 8 % ((t.length : Int) + 1)))
    have h2 := hl (some (c / 8 % ((t.length : Int) + 1) + 1)) none
    simp only [List.length_append]
    omega
  · simp only [List.length_append]
    omega
  · rw [emp_nil]; decide
  · simp only [List.replicate, List.flatten_cons, List.flatten_nil, List.length_append, List.length_nil]
    omega
def R__law_bent (ds : List Dat) (d : Dat) : Prop := ∃ t c, ds = [.txt t, .int c] ∧ t.length ≤ 100 ∧ d = .txt (bent t c)
theorem r__law_bent {t : List Nat} {c : Int} (h : t.length ≤ 100) : R__law_bent [.txt t, .int c] (.txt (bent t c)) := ⟨t, c, rfl, h, rfl⟩
theorem h__law_bent {K : PySem.W.Frag} (ds : List Dat) (d : Dat) (h : R__law_bent ds d) : SemS K (T__law_bent K) (slots 5 ds) (PF d) := by
  obtain ⟨t, c, rfl, hl, rfl⟩ := h
  have hll := others_len
  have hS : sizeLine = 16777216 := rfl
  have ht : t.length ≤ sizeLine := by omega
  have hc : ∀ lo hi, (cutL t lo hi).length ≤ 100 := fun lo hi => Nat.le_trans (cutL_len t lo hi) hl
  apply ss_seq
  apply ss_asg
  · walk_at "sem"
  apply ss_seq
  apply ss_asg
  · apply s_op
    · walk_at "sem"
    · walk_at "sem"
    · apply os_mod
      omega
  apply ss_seq
  have hx : atI others (c / 64 % (others.length : Int)) = some (others.getD (c / 64 % (others.length : Int)).toNat 0) := atI_getD 0 (Int.emod_nonneg _ (by omega)) (Int.emod_lt_of_pos _ (by omega))
  refine ss_asg (d := .txt [others.getD (c / 64 % (others.length : Int)).toNat 0]) ?_ ?_
  · refine s_op (a := .txt others) (b := .int (c / 64 % (others.length : Int))) ?_ ?_ ?_
    · exact s_var rfl
    · refine s_op (a := .int (c / 64)) (b := .int (others.length : Int)) ?_ ?_ ?_
      · walk_at "sem"
      · refine s_cb (ds := [.txt others]) (sa_cons (s_var rfl) sa_nil) (cs_lenT (by omega))
      · apply os_mod; omega
    · exact os_ixT hx (by omega)
  generalize hA : c / 8 % ((t.length : Int) + 1) = at'
  generalize hG : others.getD (c / 64 % (others.length : Int)).toNat 0 = sg
  have c1 := hc none (some at')
  have c2 := hc (some at') none
  have c3 := hc (some (at' + 1)) none
  have hx2 : atI ((bentL t at' sg).map Dat.txt) (c % 8 % 6) = some (.txt ((bentL t at' sg).getD (c % 8 % 6).toNat [])) := atI_mapD _ [] (by omega) (by show _ < (6 : Int); omega)
  refine ss_ret (d := .txt (bent t c)) ?_ rfl
  have e : bent t c = (bentL t at' sg).getD (c % 8 % 6).toNat [] := by
    unfold bent
    rw [hA, hG]
  rw [e]
  refine s_op (a := .lst ((bentL t at' sg).map .txt)) (b := .int (c % 8 % 6)) ?_ ?_ (os_ixL hx2)
  · refine s_lst (ds := (bentL t at' sg).map .txt) ?_ (by show 6 ≤ sizeLine; decide)
    refine sa_cons ?_ (sa_cons ?_ (sa_cons ?_ (sa_cons ?_ (sa_cons ?_ (sa_cons ?_ sa_nil)))))
    · walk_at "sem"
    · walk_at "sem"
    · walk_at "sem"
    · walk_at "sem"
    · walk_at "sem"
    · refine s_op (a := .txt t) (b := .int 4) ?_ ?_ (os_mulT (n := 4) (by decide) (by decide) (by omega))
      · walk_at "sem"
      · walk_at "sem"
  · walk_at "sem"
/-! ### the mathematics -/
theorem filter_len {α : Type} (p : α → Bool) : ∀ xs : List α, ((xs.filter p).length = xs.length) ↔ xs.all p = true
  | [] => by simp
  | x :: r => by
    have ih := filter_len p r
    have hle := List.length_filter_le p r
    rw [List.filter_cons, List.all_cons]
    cases h : p x with
    | true => simp only [if_true, List.length_cons, Bool.true_and]; rw [← ih]; omega
    | false => simp only [Bool.false_eq_true, if_false, List.length_cons, Bool.false_and]; constructor <;> intro z <;> first | omega | cases z
theorem isFixed_eq (t : List Nat) : isFixed t = lawFixed t := by
  unfold isFixed lawFixed isOf
  rw [emp_nil]
  cases t with
  | nil => rfl
  | cons c r =>
    rw [if_neg (by simp)]
    have h1 : decide (1 ≤ ((c :: r).length : Int)) = true := decide_eq_true (by rw [List.length_cons]; omega)
    rw [h1, Bool.true_and, Bool.true_and]
    have key : ∀ (s : List Nat) (b : Bool), (b && (c :: r).all fun x => decide (x ∈ s)) = (decide ((((c :: r).filter fun x => decide (x ∈ s)).length : Int) = ((c :: r).length : Int)) && b) := by
      intro s b
      have := filter_len (fun x => decide (x ∈ s)) (c :: r)
      rw [Bool.and_comm]
      congr 1
      rw [Bool.eq_iff_iff, ← this, decide_eq_true_eq]
      omega
    rw [key, key]
theorem cut_first (t : List Nat) : cutL t none (some 1) = t.take 1 := by
  unfold cutL
  rw [HT.sIx_none, show HT.sIx t.length t.length (some 1) = min 1 t.length from HT.sIx_nat _ _ 1]
  cases t with
  | nil => rfl
  | cons c r => rw [List.length_cons, show min 1 (r.length + 1) = 1 by omega]; rfl
theorem cut_rest (t : List Nat) : cutL t (some 1) none = t.drop 1 := by
  unfold cutL
  rw [HT.sIx_none, show HT.sIx t.length 0 (some 1) = min 1 t.length from HT.sIx_nat _ _ 1]
  cases t with
  | nil => rfl
  | cons c r =>
    rw [List.length_cons, show min 1 (r.length + 1) = 1 by omega]
    show List.take (r.length + 1 - 1) r = r
    rw [Nat.add_sub_cancel, List.take_length]
theorem open3_eq : open3 = [[78, 65, 77, 69], [78, 85, 77, 66, 69, 82], [81, 85, 79, 84, 69]] := by decide +kernel
theorem quo_notin (t : List Nat) : decide (quo ++ t ∈ open3) = false := by
  rw [quo1, open3_eq]
  refine decide_eq_false fun h => ?_
  simp at h
theorem isKind_quo (t : List Nat) : isKind (quo ++ t) = isFixed t := by
  unfold isKind
  rw [quo_notin, cut_first, cut_rest, quo1]
  simp
theorem fixedOf_quo (t : List Nat) : fixedOf (quo ++ t) = .txt t := by
  unfold fixedOf
  rw [quo_notin, cut_rest, quo1]
  rfl
theorem r_fixed_ofQ {t : List Nat} (h : (quo ++ t).length ≤ sizeLine) : R_fixed_of [.txt (quo ++ t)] (.txt t) := ⟨_, rfl, h, (fixedOf_quo t).symm⟩
def iff_ : List Nat := (Str.ofString "if").cps.toList
def things : List Dat := [.non, .int 5, .bl true, .lst [.txt iff_], .tup [.txt iff_], .dct [], .lst []]
theorem thing_of (i : Nat) (h : i < 7) : ∃ ty, tyD (things.getD i .non) = some ty ∧ txtFits (things.getD i .non) ∧ fixedD (things.getD i .non) = false ∧ kindD (things.getD i .non) = false := by
  match i, h with
  | 0, _ => exact ⟨_, rfl, trivial, rfl, rfl⟩
  | 1, _ => exact ⟨_, rfl, trivial, rfl, rfl⟩
  | 2, _ => exact ⟨_, rfl, trivial, rfl, rfl⟩
  | 3, _ => exact ⟨_, rfl, trivial, rfl, rfl⟩
  | 4, _ => exact ⟨_, rfl, trivial, rfl, rfl⟩
  | 5, _ => exact ⟨_, rfl, trivial, rfl, rfl⟩
  | 6, _ => exact ⟨_, rfl, trivial, rfl, rfl⟩
theorem r_thingF {i : Nat} (h : i < 7) : R_is_fixed [things.getD i .non] (.bl false) := by
  obtain ⟨ty, h1, h2, h3, h4⟩ := thing_of i h
  exact ⟨_, ty, rfl, h1, h2, by rw [h3]⟩
theorem r_thingK {i : Nat} (h : i < 7) : R_is_kind [things.getD i .non] (.bl false) := by
  obtain ⟨ty, h1, h2, h3, h4⟩ := thing_of i h
  exact ⟨_, ty, rfl, h1, h2, by rw [h4]⟩
/-! ### the law -/
def R_law (ds : List Dat) (d : Dat) : Prop := ∃ ns, ds = [.scr ns] ∧ ns.length ≤ 63 ∧ d = .bl true
local macro_rules | `(tactic| walk_at "fn") => `(tactic| first
  | (apply r__law_cell; (· walk_at "side"); (· walk_at "side"); (· walk_at "side"))
  | (apply r__law_fixed_by; (· walk_at "side"); (· walk_at "side"))
  | (apply r__law_bent; walk_at "side") | (apply r__law_is_fixed; walk_at "side") | (apply r_is_fixedT; walk_at "side") | (apply r_is_kindT; walk_at "side") | (apply r_kind_of; walk_at "side")
  | (apply r_thingF; walk_at "side") | (apply r_thingK; walk_at "side"))
theorem h_law {K : PySem.W.Frag} (ds : List Dat) (d : Dat) (h : R_law ds d) :
    SemS K (T_law K (spD K R__law_cell) (spD K R__law_bent) (spD K R__law_fixed_by) (spD K R__law_is_fixed) (spD K R_is_fixed) (spD K R_is_kind) (spD K R_kind_of) (spD K R_fixed_of)) (slots 9 ds) (PF d) := by
  obtain ⟨ns, rfl, hn, rfl⟩ := h
  have hS : sizeLine = 16777216 := rfl
  have hq : quo.length = 1 := by rw [quo1]; rfl
  have hq' : (Str.ofString "'").cps.toList.length = 1 := hq
  apply ss_seq
  refine ss_for (ds := (List.range (max 6 (ns.length : Int)).toNat).map fun k => .int ((k : Nat) : Int)) ?_ (fun _ ρ => ∃ s1 s2 s3 s4 s5 s6 s7 s8, ρ = [.dat (.scr ns), s1, s2, s3, s4, s5, s6, s7, s8]) ⟨_, _, _, _, _, _, _, _, rfl⟩ ?_ ?_
  · walk_at "iter"
  · rintro i d ρ1 hd ⟨s1, s2, s3, s4, s5, s6, s7, s8, rfl⟩
    have hi : i < (max 6 (ns.length : Int)).toNat := by
      have := (List.getElem?_eq_some_iff.mp hd).1
      rwa [List.length_map, List.length_range] at this
    rw [List.getElem?_map, List.getElem?_range hi] at hd
    cases hd
    have hi2 : (i : Int) ≤ 63 := by omega
    refine ⟨_, sg_name, ?_⟩
    have q1 := cellF_lo ns i
    have q2 := cellF_hi ns i
    generalize hc : cellF ns i = c at q1 q2
    generalize hc2 : cellF ns (500 + (i : Int)) = c2
    have hfl := fixedBy_len c
    generalize hb : bent (fixedBy c) c2 = t
    have htl : t.length ≤ 1000 := by
      rw [← hb]
      exact bent_len _ _ (by omega)
    have hts : t.length ≤ sizeLine := by omega
    have hqt : (quo ++ t).length ≤ sizeLine := by rw [List.length_append]; omega
    have hcr := cutL_len t (some 1) none
    apply ss_seq
    refine ss_asg (d := .int c) ?_ ?_
    · rw [← hc]
      walk_at "sem"
    apply ss_seq
    refine ss_asg (d := .txt t) ?_ ?_
    · rw [← hb, ← hc2]
      walk_at "sem"
    apply ss_seq
    apply ss_asg
    · walk_at "sem"
    apply ss_seq
    apply ss_asg
    · walk_at "sem"
    apply ss_seq
    refine ss_if (k := false) (st_is (e := !true || (!decide (isFixed t = lawFixed t) || !decide (isKind (quo ++ t) = lawFixed t))) ?_ ?_) (fun z => by cases z) (fun _ => ?_)
    · walk_at "test"
    · rw [isKind_quo, isFixed_eq]; simp
    apply ss_next
    apply ss_seq
    apply ss_asg
    · walk_at "sem"
    apply ss_seq
    apply ss_if
    · walk_at "test"
    · intro z
      exfalso
      have e : isKind t = (decide (t ∈ [(Str.ofString "NAME").cps.toList, (Str.ofString "NUMBER").cps.toList, (Str.ofString "QUOTE").cps.toList]) || (decide (cutL t none (some 1) = (Str.ofString "'").cps.toList) && lawFixed (cutL t (some 1) none))) := by
        unfold isKind
        rw [isFixed_eq]
        rfl
      rw [e] at z
      simp at z
    · intro _
      apply ss_next
      apply ss_seq
      refine ss_if (k := false) (st_is (e := lawFixed t && (!decide (quo ++ t = quo ++ t) || !decide (t = t))) ?_ ?_) (fun z => by cases z) (fun _ => ?_)
      · refine st_and (st_bl (s_var rfl)) fun _ => st_or (k := !decide (quo ++ t = quo ++ t)) ?_ fun _ => ?_
        · walk_at "test"
        · refine st_test (s_op (a := .txt t) (b := .txt t) ?_ (s_var rfl) os_neT)
          refine s_call (ds := [.txt (quo ++ t)]) ?_ (r_fixed_ofQ hqt)
          walk_at "sems"
      · simp
      apply ss_next
      apply ss_seq
      have hx : atI things (c / 7 % 7) = some (things.getD (c / 7 % 7).toNat .non) := atI_getD Dat.non (by omega) (by show _ < (7 : Int); omega)
      refine ss_asg (d := things.getD (c / 7 % 7).toNat .non) (s_op (a := .lst things) (b := .int (c / 7 % 7)) ?_ ?_ (os_ixL hx)) ?_
      · walk_at "sem"
      · walk_at "sem"
      have h7 : (c / 7 % 7).toNat < 7 := by omega
      apply ss_if
      · walk_at "test"
      · intro z; cases z
      · intro _
        apply ss_next
        exact ⟨_, _, _, _, _, _, _, _, rfl⟩
  · rintro ρ1 ⟨s1, s2, s3, s4, s5, s6, s7, s8, rfl⟩
    apply ss_seq
    refine ss_for (ds := open3.map .txt) ?_ (fun _ ρ => ∃ s1 s2 s3 s4 s5 s6 s7 s8, ρ = [.dat (.scr ns), s1, s2, s3, s4, s5, s6, s7, s8]) ⟨_, _, _, _, _, _, _, _, rfl⟩ ?_ ?_
    · refine si_u (d := .tup (open3.map .txt)) ?_ rfl
      walk_at "sem"
    · rintro i d ρ1 hd ⟨s1, s2, s3, s4, s5, s6, s7, s8, rfl⟩
      rw [List.getElem?_map] at hd
      cases hz : open3[i]? with
      | none => rw [hz] at hd; cases hd
      | some t =>
        rw [hz] at hd
        cases hd
        have hm : t ∈ open3 := List.mem_of_getElem? hz
        have hk : ∀ t ∈ open3, isKind t = true ∧ isFixed t = false ∧ t.length ≤ 10 := by decide +kernel
        obtain ⟨k1, k2, k3⟩ := hk t hm
        have k4 : R_fixed_of [.txt t] .non := ⟨t, rfl, by omega, by unfold fixedOf; rw [if_pos (decide_eq_true hm)]⟩
        refine ⟨_, sg_name, ?_⟩
        refine ss_if (k := false) (st_is (e := !decide (isKind t = true) || (!decide (isFixed t = false) || !true)) ?_ ?_) (fun z => by cases z) (fun _ => ?_)
        · refine st_or ?_ fun _ => st_or ?_ fun _ => ?_
          · walk_at "test"
          · walk_at "test"
          · refine st_test (s_op (a := .non) (b := .non) ?_ s_non os_isnotN)
            refine s_call (ds := [.txt t]) ?_ k4
            walk_at "sems"
        · rw [k1, k2]; rfl
        apply ss_next
        exact ⟨_, _, _, _, _, _, _, _, rfl⟩
    · rintro ρ1 _
      apply ss_ret
      · walk_at "sem"
      · rfl

theorem len_is_of : ∀ ds d, R_is_of ds d → ds.length = 3 := by rintro ds d ⟨_, _, _, rfl, _⟩; rfl
theorem len_is_fixed : ∀ ds d, R_is_fixed ds d → ds.length = 1 := by rintro ds d ⟨_, _, rfl, _⟩; rfl
theorem len_is_kind : ∀ ds d, R_is_kind ds d → ds.length = 1 := by rintro ds d ⟨_, _, rfl, _⟩; rfl
theorem len_kind_of : ∀ ds d, R_kind_of ds d → ds.length = 1 := by rintro ds d ⟨_, rfl, _⟩; rfl
theorem len_fixed_of : ∀ ds d, R_fixed_of ds d → ds.length = 1 := by rintro ds d ⟨_, rfl, _⟩; rfl
theorem len__law_cell : ∀ ds d, R__law_cell ds d → ds.length = 2 := by rintro ds d ⟨_, _, rfl, _⟩; rfl
theorem len__law_signs : ∀ ds d, R__law_signs ds d → ds.length = 0 := by rintro ds d ⟨rfl, _⟩; rfl
theorem len__law_fixed_by : ∀ ds d, R__law_fixed_by ds d → ds.length = 1 := by rintro ds d ⟨_, rfl, _⟩; rfl
theorem len__law_is_fixed : ∀ ds d, R__law_is_fixed ds d → ds.length = 1 := by rintro ds d ⟨_, rfl, _⟩; rfl
theorem len__law_bent : ∀ ds d, R__law_bent ds d → ds.length = 2 := by rintro ds d ⟨_, _, rfl, _⟩; rfl
theorem len_law : ∀ ds d, R_law ds d → ds.length = 1 := by rintro ds d ⟨_, rfl, _⟩; rfl
def spLaw (K : PySem.W.Frag) : Sp := fun vs H Q _ => ∃ (a : Addr) (ns : List Int), vs = [.ref a] ∧ SqL K H a (ns.map V.int) ∧ ns.length ≤ 63 ∧ ∀ H', Q (.bl true) H'
set_option maxHeartbeats 4000000 in
theorem all_mk {l : PySem.W.OpenLaw} {w : World} {K : PySem.W.Frag} {h : Heap} {mg : Str → Option Value} {fa : Addr} (X : K.In h) (G : h.Ns mainGlobals mg) (hfa : mg "law" = some (.ref fa))
    {od__law_cell an__law_cell : Option Addr} {sl__law_cell : Array (Option Value)} {oc__law_cell kV__law_cell dc__law_cell pm__law_cell cd__law_cell ct__law_cell : Value} {f__law_cell : Addr}
    {od__law_bent an__law_bent : Option Addr} {sl__law_bent : Array (Option Value)} {oc__law_bent kV__law_bent dc__law_bent pm__law_bent cd__law_bent ct__law_bent : Value} {f__law_bent : Addr}
    {od__law_signs an__law_signs : Option Addr} {sl__law_signs : Array (Option Value)} {oc__law_signs kV__law_signs dc__law_signs pm__law_signs cd__law_signs ct__law_signs : Value} {f__law_signs : Addr}
    {od__law_fixed_by an__law_fixed_by : Option Addr} {sl__law_fixed_by : Array (Option Value)} {oc__law_fixed_by kV__law_fixed_by dc__law_fixed_by pm__law_fixed_by cd__law_fixed_by ct__law_fixed_by : Value} {f__law_fixed_by : Addr}
    {od__law_is_fixed an__law_is_fixed : Option Addr} {sl__law_is_fixed : Array (Option Value)} {oc__law_is_fixed kV__law_is_fixed dc__law_is_fixed pm__law_is_fixed cd__law_is_fixed ct__law_is_fixed : Value} {f__law_is_fixed : Addr}
    {od_is_of an_is_of : Option Addr} {sl_is_of : Array (Option Value)} {oc_is_of kV_is_of dc_is_of pm_is_of cd_is_of ct_is_of : Value} {f_is_of : Addr}
    {od_is_fixed an_is_fixed : Option Addr} {sl_is_fixed : Array (Option Value)} {oc_is_fixed kV_is_fixed dc_is_fixed pm_is_fixed cd_is_fixed ct_is_fixed : Value} {f_is_fixed : Addr}
    {od_is_kind an_is_kind : Option Addr} {sl_is_kind : Array (Option Value)} {oc_is_kind kV_is_kind dc_is_kind pm_is_kind cd_is_kind ct_is_kind : Value} {f_is_kind : Addr}
    {od_kind_of an_kind_of : Option Addr} {sl_kind_of : Array (Option Value)} {oc_kind_of kV_kind_of dc_kind_of pm_kind_of cd_kind_of ct_kind_of : Value} {f_kind_of : Addr}
    {od_fixed_of an_fixed_of : Option Addr} {sl_fixed_of : Array (Option Value)} {oc_fixed_of kV_fixed_of dc_fixed_of pm_fixed_of cd_fixed_of ct_fixed_of : Value} {f_fixed_of : Addr}
    {od_law an_law : Option Addr} {sl_law : Array (Option Value)} {oc_law kV_law dc_law pm_law cd_law ct_law : Value} {f_law : Addr}
    {ga_OPEN : Addr} {go_OPEN : Option Addr} {gn_OPEN : Nat} {gs_OPEN : Array (Option Value)} {tk1 tk2 tk3 tk4 tk5 tk6 tk7 : Tok}
    (a__law_cell : PySem.W.nsIn K mainGlobals "_law_cell" = some (some (.ref f__law_cell)))
    (l__law_cell : K.lookup f__law_cell = some ⟨oc__law_cell, od__law_cell, .func (PySem.W.fnOf "_law_cell" "_law_cell" (defArgs s__law_cell) (defBody s__law_cell) (defScope s__law_cell) .none kV__law_cell dc__law_cell pm__law_cell an__law_cell cd__law_cell ct__law_cell), sl__law_cell⟩)
    (c__law_cell : PySem.W.codeIn K cd__law_cell "_law_cell" = true)
    (k__law_cell : PySem.W.keepIn K (.ref f__law_cell) = true)
    (a__law_bent : PySem.W.nsIn K mainGlobals "_law_bent" = some (some (.ref f__law_bent)))
    (l__law_bent : K.lookup f__law_bent = some ⟨oc__law_bent, od__law_bent, .func (PySem.W.fnOf "_law_bent" "_law_bent" (defArgs s__law_bent) (defBody s__law_bent) (defScope s__law_bent) .none kV__law_bent dc__law_bent pm__law_bent an__law_bent cd__law_bent ct__law_bent), sl__law_bent⟩)
    (c__law_bent : PySem.W.codeIn K cd__law_bent "_law_bent" = true)
    (k__law_bent : PySem.W.keepIn K (.ref f__law_bent) = true)
    (a__law_signs : PySem.W.nsIn K mainGlobals "_law_signs" = some (some (.ref f__law_signs)))
    (l__law_signs : K.lookup f__law_signs = some ⟨oc__law_signs, od__law_signs, .func (PySem.W.fnOf "_law_signs" "_law_signs" (defArgs s__law_signs) (defBody s__law_signs) (defScope s__law_signs) .none kV__law_signs dc__law_signs pm__law_signs an__law_signs cd__law_signs ct__law_signs), sl__law_signs⟩)
    (c__law_signs : PySem.W.codeIn K cd__law_signs "_law_signs" = true)
    (k__law_signs : PySem.W.keepIn K (.ref f__law_signs) = true)
    (a__law_fixed_by : PySem.W.nsIn K mainGlobals "_law_fixed_by" = some (some (.ref f__law_fixed_by)))
    (l__law_fixed_by : K.lookup f__law_fixed_by = some ⟨oc__law_fixed_by, od__law_fixed_by, .func (PySem.W.fnOf "_law_fixed_by" "_law_fixed_by" (defArgs s__law_fixed_by) (defBody s__law_fixed_by) (defScope s__law_fixed_by) .none kV__law_fixed_by dc__law_fixed_by pm__law_fixed_by an__law_fixed_by cd__law_fixed_by ct__law_fixed_by), sl__law_fixed_by⟩)
    (c__law_fixed_by : PySem.W.codeIn K cd__law_fixed_by "_law_fixed_by" = true)
    (k__law_fixed_by : PySem.W.keepIn K (.ref f__law_fixed_by) = true)
    (a__law_is_fixed : PySem.W.nsIn K mainGlobals "_law_is_fixed" = some (some (.ref f__law_is_fixed)))
    (l__law_is_fixed : K.lookup f__law_is_fixed = some ⟨oc__law_is_fixed, od__law_is_fixed, .func (PySem.W.fnOf "_law_is_fixed" "_law_is_fixed" (defArgs s__law_is_fixed) (defBody s__law_is_fixed) (defScope s__law_is_fixed) .none kV__law_is_fixed dc__law_is_fixed pm__law_is_fixed an__law_is_fixed cd__law_is_fixed ct__law_is_fixed), sl__law_is_fixed⟩)
    (c__law_is_fixed : PySem.W.codeIn K cd__law_is_fixed "_law_is_fixed" = true)
    (k__law_is_fixed : PySem.W.keepIn K (.ref f__law_is_fixed) = true)
    (a_is_of : PySem.W.nsIn K mainGlobals "is_of" = some (some (.ref f_is_of)))
    (l_is_of : K.lookup f_is_of = some ⟨oc_is_of, od_is_of, .func (PySem.W.fnOf "is_of" "is_of" (defArgs s_is_of) (defBody s_is_of) (defScope s_is_of) .none kV_is_of dc_is_of pm_is_of an_is_of cd_is_of ct_is_of), sl_is_of⟩)
    (c_is_of : PySem.W.codeIn K cd_is_of "is_of" = true)
    (k_is_of : PySem.W.keepIn K (.ref f_is_of) = true)
    (a_is_fixed : PySem.W.nsIn K mainGlobals "is_fixed" = some (some (.ref f_is_fixed)))
    (l_is_fixed : K.lookup f_is_fixed = some ⟨oc_is_fixed, od_is_fixed, .func (PySem.W.fnOf "is_fixed" "is_fixed" (defArgs s_is_fixed) (defBody s_is_fixed) (defScope s_is_fixed) .none kV_is_fixed dc_is_fixed pm_is_fixed an_is_fixed cd_is_fixed ct_is_fixed), sl_is_fixed⟩)
    (c_is_fixed : PySem.W.codeIn K cd_is_fixed "is_fixed" = true)
    (k_is_fixed : PySem.W.keepIn K (.ref f_is_fixed) = true)
    (a_is_kind : PySem.W.nsIn K mainGlobals "is_kind" = some (some (.ref f_is_kind)))
    (l_is_kind : K.lookup f_is_kind = some ⟨oc_is_kind, od_is_kind, .func (PySem.W.fnOf "is_kind" "is_kind" (defArgs s_is_kind) (defBody s_is_kind) (defScope s_is_kind) .none kV_is_kind dc_is_kind pm_is_kind an_is_kind cd_is_kind ct_is_kind), sl_is_kind⟩)
    (c_is_kind : PySem.W.codeIn K cd_is_kind "is_kind" = true)
    (k_is_kind : PySem.W.keepIn K (.ref f_is_kind) = true)
    (a_kind_of : PySem.W.nsIn K mainGlobals "kind_of" = some (some (.ref f_kind_of)))
    (l_kind_of : K.lookup f_kind_of = some ⟨oc_kind_of, od_kind_of, .func (PySem.W.fnOf "kind_of" "kind_of" (defArgs s_kind_of) (defBody s_kind_of) (defScope s_kind_of) .none kV_kind_of dc_kind_of pm_kind_of an_kind_of cd_kind_of ct_kind_of), sl_kind_of⟩)
    (c_kind_of : PySem.W.codeIn K cd_kind_of "kind_of" = true)
    (k_kind_of : PySem.W.keepIn K (.ref f_kind_of) = true)
    (a_fixed_of : PySem.W.nsIn K mainGlobals "fixed_of" = some (some (.ref f_fixed_of)))
    (l_fixed_of : K.lookup f_fixed_of = some ⟨oc_fixed_of, od_fixed_of, .func (PySem.W.fnOf "fixed_of" "fixed_of" (defArgs s_fixed_of) (defBody s_fixed_of) (defScope s_fixed_of) .none kV_fixed_of dc_fixed_of pm_fixed_of an_fixed_of cd_fixed_of ct_fixed_of), sl_fixed_of⟩)
    (c_fixed_of : PySem.W.codeIn K cd_fixed_of "fixed_of" = true)
    (k_fixed_of : PySem.W.keepIn K (.ref f_fixed_of) = true)
    (a_law : PySem.W.nsIn K mainGlobals "law" = some (some (.ref f_law)))
    (l_law : K.lookup f_law = some ⟨oc_law, od_law, .func (PySem.W.fnOf "law" "law" (defArgs s_law) (defBody s_law) (defScope s_law) .none kV_law dc_law pm_law an_law cd_law ct_law), sl_law⟩)
    (c_law : PySem.W.codeIn K cd_law "law" = true)
    (k_law : PySem.W.keepIn K (.ref f_law) = true)
    (n_LETTERS : PySem.W.nsIn K mainGlobals "LETTERS" = some (some (.str (Str.ofString "abcdefghijklmnopqrstuvwxyz") tk1)))
    (n_MOST_LETTERS : PySem.W.nsIn K mainGlobals "MOST_LETTERS" = some (some (.int 8 tk2)))
    (n_SIGNS : PySem.W.nsIn K mainGlobals "SIGNS" = some (some (.str (Str.ofString "!#$&()*+,-./:;<=>?@\x5b]^{|}~") tk3)))
    (n_MOST_SIGNS : PySem.W.nsIn K mainGlobals "MOST_SIGNS" = some (some (.int 3 tk4)))
    (n_OPEN : PySem.W.nsIn K mainGlobals "OPEN" = some (some (.ref ga_OPEN)))
    (o_OPEN : K.lookup ga_OPEN = some ⟨.type "tuple", go_OPEN, .seq #[(.str (Str.ofString "NAME") tk5), (.str (Str.ofString "NUMBER") tk6), (.str (Str.ofString "QUOTE") tk7)] gn_OPEN, gs_OPEN⟩)
    (z_len : PySem.W.nsIn K mainGlobals "len" = some none)
    (z_range : PySem.W.nsIn K mainGlobals "range" = some none)
    (z_all : PySem.W.nsIn K mainGlobals "all" = some none)
    (z_isinstance : PySem.W.nsIn K mainGlobals "isinstance" = some none)
    (z_str : PySem.W.nsIn K mainGlobals "str" = some none)
    (z_max : PySem.W.nsIn K mainGlobals "max" = some none)
    (z_bool : PySem.W.nsIn K mainGlobals "bool" = some none) :
    ∃ fd : FuncData, (∀ (s : Shared) (v : Value), BindsTo s fd ⟨[v], []⟩ [("_law_script", v)]) ∧ ∀ base : Heap, K.In base → base.Ns mainGlobals mg → FnOk l.prog w K mg base CX0 4 fa fd ["_law_script"] (spLaw K) := by
  have e := hfa.symm.trans (PySem.W.mg_of X G a_law)
  cases e
  have rv_LETTERS : RelV (V.str (Str.ofString "abcdefghijklmnopqrstuvwxyz")) (.str (Str.ofString "abcdefghijklmnopqrstuvwxyz") tk1) := ⟨_, rfl⟩
  have hd_LETTERS : ∀ G, DR K G (V.str (Str.ofString "abcdefghijklmnopqrstuvwxyz")) (.txt letters) := fun G => .ofStr _
  have rv_MOST_LETTERS : RelV (V.int 8) (.int 8 tk2) := ⟨_, rfl⟩
  have hd_MOST_LETTERS : ∀ G, DR K G (V.int 8) (.int 8) := fun G => .int _
  have rv_SIGNS : RelV (V.str (Str.ofString "!#$&()*+,-./:;<=>?@\x5b]^{|}~")) (.str (Str.ofString "!#$&()*+,-./:;<=>?@\x5b]^{|}~") tk3) := ⟨_, rfl⟩
  have hd_SIGNS : ∀ G, DR K G (V.str (Str.ofString "!#$&()*+,-./:;<=>?@\x5b]^{|}~")) (.txt signs) := fun G => .ofStr _
  have rv_MOST_SIGNS : RelV (V.int 3) (.int 3 tk4) := ⟨_, rfl⟩
  have hd_MOST_SIGNS : ∀ G, DR K G (V.int 3) (.int 3) := fun G => .int _
  have rv_OPEN : RelV (V.ref ga_OPEN) (.ref ga_OPEN) := rfl
  have hd_OPEN : ∀ G, DR K G (V.ref ga_OPEN) (.tup (open3.map .txt)) := fun G => .tup (xs := [(V.str (Str.ofString "NAME")), (V.str (Str.ofString "NUMBER")), (V.str (Str.ofString "QUOTE"))]) (.inr ⟨_, _, _, o_OPEN, rfl, rfl, (by show 3 ≤ sizeLine; decide), (.cons ⟨_, rfl⟩ (.cons ⟨_, rfl⟩ (.cons ⟨_, rfl⟩ .nil)))⟩) (.cons (.ofStr _) (.cons (.ofStr _) (.cons (.ofStr _) .nil)))
  have F__law_cell := fun_mk (st := s__law_cell) l__law_cell c__law_cell k__law_cell
  have b__law_cell := F__law_cell.binds (ps := ["_law_script", "_law_k"]) fun _ _ _ _ _ _ us hl => match us, hl with | [_, _], _ => rfl
  have F__law_bent := fun_mk (st := s__law_bent) l__law_bent c__law_bent k__law_bent
  have b__law_bent := F__law_bent.binds (ps := ["_law_text", "_law_cell_here"]) fun _ _ _ _ _ _ us hl => match us, hl with | [_, _], _ => rfl
  have F__law_signs := fun_mk (st := s__law_signs) l__law_signs c__law_signs k__law_signs
  have b__law_signs := F__law_signs.binds (ps := []) fun _ _ _ _ _ _ us hl => match us, hl with | [], _ => rfl
  have F__law_fixed_by := fun_mk (st := s__law_fixed_by) l__law_fixed_by c__law_fixed_by k__law_fixed_by
  have b__law_fixed_by := F__law_fixed_by.binds (ps := ["_law_cell_here"]) fun _ _ _ _ _ _ us hl => match us, hl with | [_], _ => rfl
  have F__law_is_fixed := fun_mk (st := s__law_is_fixed) l__law_is_fixed c__law_is_fixed k__law_is_fixed
  have b__law_is_fixed := F__law_is_fixed.binds (ps := ["_law_text"]) fun _ _ _ _ _ _ us hl => match us, hl with | [_], _ => rfl
  have F_is_of := fun_mk (st := s_is_of) l_is_of c_is_of k_is_of
  have b_is_of := F_is_of.binds (ps := ["text", "signs", "most"]) fun _ _ _ _ _ _ us hl => match us, hl with | [_, _, _], _ => rfl
  have F_is_fixed := fun_mk (st := s_is_fixed) l_is_fixed c_is_fixed k_is_fixed
  have b_is_fixed := F_is_fixed.binds (ps := ["thing"]) fun _ _ _ _ _ _ us hl => match us, hl with | [_], _ => rfl
  have F_is_kind := fun_mk (st := s_is_kind) l_is_kind c_is_kind k_is_kind
  have b_is_kind := F_is_kind.binds (ps := ["thing"]) fun _ _ _ _ _ _ us hl => match us, hl with | [_], _ => rfl
  have F_kind_of := fun_mk (st := s_kind_of) l_kind_of c_kind_of k_kind_of
  have b_kind_of := F_kind_of.binds (ps := ["word"]) fun _ _ _ _ _ _ us hl => match us, hl with | [_], _ => rfl
  have F_fixed_of := fun_mk (st := s_fixed_of) l_fixed_of c_fixed_of k_fixed_of
  have b_fixed_of := F_fixed_of.binds (ps := ["kind"]) fun _ _ _ _ _ _ us hl => match us, hl with | [_], _ => rfl
  have F_law := fun_mk (st := s_law) l_law c_law k_law
  have b_law := F_law.binds (ps := ["_law_script"]) fun _ _ _ _ _ _ us hl => match us, hl with | [_], _ => rfl
  refine ⟨PySem.W.fnOf "law" "law" (defArgs s_law) (defBody s_law) (defScope s_law) .none kV_law dc_law pm_law an_law cd_law ct_law, fun s v => .of_eq rfl, fun base _ _ => ?_⟩
  have G__law_cell : GD l.prog w K mg base 1 "_law_cell" ["_law_script", "_law_k"] (spD K R__law_cell) := gd_of (N := ["_law_script", "_law_k", "_law_cell_here", "_law_more"]) (ps := ["_law_script", "_law_k"]) (k := 0) (R := R__law_cell) F__law_cell (PySem.W.mg_of X G a__law_cell) b__law_cell sc__law_cell len__law_cell (p__law_cell (PySem.W.mg_none_of X G z_len)) (h__law_cell)
  have G__law_bent : GD l.prog w K mg base 1 "_law_bent" ["_law_text", "_law_cell_here"] (spD K R__law_bent) := gd_of (N := ["_law_text", "_law_cell_here", "_law_others", "_law_at", "_law_sign"]) (ps := ["_law_text", "_law_cell_here"]) (k := 0) (R := R__law_bent) F__law_bent (PySem.W.mg_of X G a__law_bent) b__law_bent sc__law_bent len__law_bent (p__law_bent (PySem.W.mg_none_of X G z_len)) (h__law_bent)
  have G__law_signs : GD l.prog w K mg base 1 "_law_signs" [] (spD K R__law_signs) := gd_of (N := []) (ps := []) (k := 0) (R := R__law_signs) F__law_signs (PySem.W.mg_of X G a__law_signs) b__law_signs sc__law_signs len__law_signs (p__law_signs) (h__law_signs)
  have G__law_fixed_by : GD l.prog w K mg base 2 "_law_fixed_by" ["_law_cell_here"] (spD K R__law_fixed_by) := gd_of (N := ["_law_cell_here", "_law_letters", "_law_usual", "_law_step", "_law_k"]) (ps := ["_law_cell_here"]) (k := 1) (R := R__law_fixed_by) F__law_fixed_by (PySem.W.mg_of X G a__law_fixed_by) b__law_fixed_by sc__law_fixed_by len__law_fixed_by (p__law_fixed_by (G__law_signs.mono (by decide)) (PySem.W.mg_none_of X G z_range)) (h__law_fixed_by)
  have G__law_is_fixed : GD l.prog w K mg base 2 "_law_is_fixed" ["_law_text"] (spD K R__law_is_fixed) := gd_of (N := ["_law_text", "_law_letters", "_law_signs_here", "_law_sign"]) (ps := ["_law_text"]) (k := 1) (R := R__law_is_fixed) F__law_is_fixed (PySem.W.mg_of X G a__law_is_fixed) b__law_is_fixed sc__law_is_fixed len__law_is_fixed (p__law_is_fixed (G__law_signs.mono (by decide)) (PySem.W.mg_none_of X G z_len)) (h__law_is_fixed)
  have G_is_of : GD l.prog w K mg base 1 "is_of" ["text", "signs", "most"] (spD K R_is_of) := gd_of (N := ["text", "signs", "most", "sign"]) (ps := ["text", "signs", "most"]) (k := 0) (R := R_is_of) F_is_of (PySem.W.mg_of X G a_is_of) b_is_of sc_is_of len_is_of (p_is_of (PySem.W.mg_none_of X G z_len) (PySem.W.mg_none_of X G z_all)) (h_is_of)
  have G_is_fixed : GD l.prog w K mg base 2 "is_fixed" ["thing"] (spD K R_is_fixed) := gd_of (N := ["thing"]) (ps := ["thing"]) (k := 1) (R := R_is_fixed) F_is_fixed (PySem.W.mg_of X G a_is_fixed) b_is_fixed sc_is_fixed len_is_fixed (p_is_fixed (G_is_of.mono (by decide)) (PySem.W.mg_of X G n_LETTERS) rv_LETTERS (PySem.W.mg_of X G n_MOST_LETTERS) rv_MOST_LETTERS (PySem.W.mg_of X G n_SIGNS) rv_SIGNS (PySem.W.mg_of X G n_MOST_SIGNS) rv_MOST_SIGNS (PySem.W.mg_none_of X G z_isinstance) (PySem.W.mg_none_of X G z_str)) (h_is_fixed hd_LETTERS hd_MOST_LETTERS hd_SIGNS hd_MOST_SIGNS)
  have G_is_kind : GD l.prog w K mg base 3 "is_kind" ["thing"] (spD K R_is_kind) := gd_of (N := ["thing"]) (ps := ["thing"]) (k := 2) (R := R_is_kind) F_is_kind (PySem.W.mg_of X G a_is_kind) b_is_kind sc_is_kind len_is_kind (p_is_kind (G_is_fixed.mono (by decide)) (PySem.W.mg_of X G n_OPEN) rv_OPEN (PySem.W.mg_none_of X G z_isinstance) (PySem.W.mg_none_of X G z_str)) (h_is_kind hd_OPEN)
  have G_kind_of : GD l.prog w K mg base 1 "kind_of" ["word"] (spD K R_kind_of) := gd_of (N := ["word"]) (ps := ["word"]) (k := 0) (R := R_kind_of) F_kind_of (PySem.W.mg_of X G a_kind_of) b_kind_of sc_kind_of len_kind_of (p_kind_of) (h_kind_of)
  have G_fixed_of : GD l.prog w K mg base 1 "fixed_of" ["kind"] (spD K R_fixed_of) := gd_of (N := ["kind"]) (ps := ["kind"]) (k := 0) (R := R_fixed_of) F_fixed_of (PySem.W.mg_of X G a_fixed_of) b_fixed_of sc_fixed_of len_fixed_of (p_fixed_of (PySem.W.mg_of X G n_OPEN) rv_OPEN) (h_fixed_of hd_OPEN)
  have LF : FnOk l.prog w K mg base CX0 4 _ _ ["_law_script"] (spD K R_law) := fn_d (N := ["_law_script", "_law_k", "_law_more", "_law_text", "_law_good", "_law_found", "_law_kinded", "_law_thing", "_law_kind"]) (ps := ["_law_script"]) (k := 3) (R := R_law) F_law sc_law len_law (p_law (G__law_cell.mono (by decide)) (G__law_bent.mono (by decide)) (G__law_fixed_by.mono (by decide)) (G__law_is_fixed.mono (by decide)) (G_is_fixed.mono (by decide)) (G_is_kind.mono (by decide)) (G_kind_of.mono (by decide)) (G_fixed_of.mono (by decide)) (PySem.W.mg_none_of X G z_range) (PySem.W.mg_none_of X G z_max) (PySem.W.mg_none_of X G z_len) (PySem.W.mg_none_of X G z_isinstance) (PySem.W.mg_none_of X G z_bool)) (h_law)
  exact LF.imp fun vs H Q E q => by
    obtain ⟨a, ns, rfl, hs, hn, q⟩ := q
    exact ⟨H, [.scr ns], .bl true, Evl.Ex.refl _, .cons (.scr hs) .nil, ⟨ns, rfl, hn, rfl⟩, fun v G1 H1 g r => by cases r; exact q _⟩
end K11
open PySem PySem.W PyProof.Rows
set_option maxHeartbeats 0 in
theorem PySem.Challenge.cw_readwright_k11_fixed_words_and_kinds_holds : PySem.Challenge.rw_readwright_k11_fixed_words_and_kinds.Holds := by
  w_on; o_law; k_head; (case hw => w_witness2)
  k_fill
  refine L2.walk_of (l := PySem.Challenge.rw_readwright_k11_fixed_words_and_kinds) (n := 63) (k := 4) (x := "_law_script") (CX := fun _ => L2.CX0) (sp := fun w => K11.spLaw _) rfl (by decide) rfl ⟨rfl, by decide, by decide⟩ (fun w h Y => PySem.W.kIn_of Y) ?F (fun _ _ a ns hl _ hS => ⟨a, ns, rfl, hS, hl, fun _ => rfl⟩) (fun _ _ _ _ _ h => h)
  case F =>
    intro w mg fa h KX G hmg
    refine' K11.all_mk KX G hmg ?a__law_cell ?l__law_cell ?c__law_cell ?k__law_cell ?a__law_bent ?l__law_bent ?c__law_bent ?k__law_bent ?a__law_signs ?l__law_signs ?c__law_signs ?k__law_signs ?a__law_fixed_by ?l__law_fixed_by ?c__law_fixed_by ?k__law_fixed_by ?a__law_is_fixed ?l__law_is_fixed ?c__law_is_fixed ?k__law_is_fixed ?a_is_of ?l_is_of ?c_is_of ?k_is_of ?a_is_fixed ?l_is_fixed ?c_is_fixed ?k_is_fixed ?a_is_kind ?l_is_kind ?c_is_kind ?k_is_kind ?a_kind_of ?l_kind_of ?c_kind_of ?k_kind_of ?a_fixed_of ?l_fixed_of ?c_fixed_of ?k_fixed_of ?a_law ?l_law ?c_law ?k_law ?n_LETTERS ?n_MOST_LETTERS ?n_SIGNS ?n_MOST_SIGNS ?n_OPEN ?o_OPEN ?z_len ?z_range ?z_all ?z_isinstance ?z_str ?z_max ?z_bool
    (case a__law_cell => k_is)
    (case l__law_cell => k_is)
    (case c__law_cell => k_is)
    (case k__law_cell => k_is)
    (case a__law_bent => k_is)
    (case l__law_bent => k_is)
    (case c__law_bent => k_is)
    (case k__law_bent => k_is)
    (case a__law_signs => k_is)
    (case l__law_signs => k_is)
    (case c__law_signs => k_is)
    (case k__law_signs => k_is)
    (case a__law_fixed_by => k_is)
    (case l__law_fixed_by => k_is)
    (case c__law_fixed_by => k_is)
    (case k__law_fixed_by => k_is)
    (case a__law_is_fixed => k_is)
    (case l__law_is_fixed => k_is)
    (case c__law_is_fixed => k_is)
    (case k__law_is_fixed => k_is)
    (case a_is_of => k_is)
    (case l_is_of => k_is)
    (case c_is_of => k_is)
    (case k_is_of => k_is)
    (case a_is_fixed => k_is)
    (case l_is_fixed => k_is)
    (case c_is_fixed => k_is)
    (case k_is_fixed => k_is)
    (case a_is_kind => k_is)
    (case l_is_kind => k_is)
    (case c_is_kind => k_is)
    (case k_is_kind => k_is)
    (case a_kind_of => k_is)
    (case l_kind_of => k_is)
    (case c_kind_of => k_is)
    (case k_kind_of => k_is)
    (case a_fixed_of => k_is)
    (case l_fixed_of => k_is)
    (case c_fixed_of => k_is)
    (case k_fixed_of => k_is)
    (case a_law => k_is)
    (case l_law => k_is)
    (case c_law => k_is)
    (case k_law => k_is)
    (case n_LETTERS => k_is)
    (case n_MOST_LETTERS => k_is)
    (case n_SIGNS => k_is)
    (case n_MOST_SIGNS => k_is)
    (case n_OPEN => k_is)
    (case o_OPEN => k_is)
    (case z_len => k_is)
    (case z_range => k_is)
    (case z_all => k_is)
    (case z_isinstance => k_is)
    (case z_str => k_is)
    (case z_max => k_is)
    (case z_bool => k_is)
