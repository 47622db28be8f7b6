import PyProof.Rows.All
import Wide.All
import OpenK.AllK
import Wide.FinOn
import HandS.ForMost
import HandS.IsInst
import HandS.Style
import HandS.TupAny
import HandS.TupLe
import HandS.Evl
import HandS.Steps
import HandS.Deep
import HandS.Exc
import HandS.ExcOwn
import HandS.WordsExc
import HandS.ExcInit
import HandS.ExcField
import HandS.ClsMeth
import HandS.CallSlots
import HandS.ExcIs
import HandS.StrMore
import KE.DataMinMax
import HandS.Zip
import PyProof.Rows.RowBridgeK
import KE.DataFind
import PyProof.ExcBaseAll.ValueError
import HandS.Defaults
import HandS.Set
import HandS.TupSets
import HandS.SetKeys
import HandS.SetFor
import KE.SortData
import HandS.Iter
import KE.KDictLaws
import HandS.Call
import KE.GoesEnum
import KE.KEqDict
import HandS.Dict
import HandS.More
import PySem.Challenge.RW_readwright_k32_what_rows_begin_with
set_option Elab.async false
set_option linter.all false
set_option maxRecDepth 100000
/-! A layer over HandS: what a reading yields told by plain data, the heap out of sight. -/
namespace DL
open PySem PySem.Spec PyProof.Rows L2
open Evl (Ex ex_l ex_t fresh_back)

/-! ### a caught exception that is kept: at a, of the class cls, its fields' dict at d -/
def exv (a : Addr) (cls : Value) (d : Option Addr) : HO := .ext fun h => ∃ oe vs, h.get? a = some oe ∧ Zc cls d oe ∧ oe.data = .fields vs
/-! ### data -/
inductive Dat where
  | non | bl (b : Bool) | int (i : Int) | txt (cs : List Nat) | lst (xs : List Dat) | tup (xs : List Dat)
  | ins (C : Addr) (fs : List (Str × Dat)) | dct (kvs : List (Key × Dat)) | scr (ns : List Int) | ty (n : String) | cls (C : Addr) | exc (C : Addr) (fs : List (Str × Dat))

mutual
inductive DR (K : PySem.W.Frag) (H : Hp) : V → Dat → Prop
  | non : DR K H .non .non
  | ty (n : String) : DR K H (.ty n) (.ty n)
  | cls (C : Addr) : DR K H (.ref C) (.cls C)
  | exc0 {a C : Addr} : H a = some (exv a (.ref C) none) → DR K H (.ref a) (.exc C [])
  | exc1 {a C dd : Addr} {fs : List (Str × V)} {gs : List (Str × Dat)} : H a = some (exv a (.ref C) (some dd)) → H dd = some (.xd fs) → DRf K H fs gs → DR K H (.ref a) (.exc C gs)
  | bl (b : Bool) : DR K H (.bl b) (.bl b)
  | int (i : Int) : DR K H (.int i) (.int i)
  | txt (cs : List Nat) : DR K H (.str ⟨cs.toArray⟩) (.txt cs)
  | lst {a : Addr} {xs : List V} {ds : List Dat} : H a = some (.lst xs) → DRs K H xs ds → DR K H (.ref a) (.lst ds)
  | scr {a : Addr} {ns : List Int} : SqL K H a (ns.map V.int) → DR K H (.ref a) (.scr ns)
  | tup {a : Addr} {xs : List V} {ds : List Dat} : SqT K H a xs → DRs K H xs ds → DR K H (.ref a) (.tup ds)
  | ins {a C dx : Addr} {fs : List (Str × V)} {gs : List (Str × Dat)} : H a = some (.ins C dx fs) → DRf K H fs gs → DR K H (.ref a) (.ins C gs)
  | dct {a : Addr} {kvs : List (Key × V)} {es : List (Key × Dat)} : Rd H a (.dK kvs) → DRk K H kvs es → DR K H (.ref a) (.dct es)
inductive DRs (K : PySem.W.Frag) (H : Hp) : List V → List Dat → Prop
  | nil : DRs K H [] []
  | cons {v : V} {vs : List V} {d : Dat} {ds : List Dat} : DR K H v d → DRs K H vs ds → DRs K H (v :: vs) (d :: ds)
inductive DRf (K : PySem.W.Frag) (H : Hp) : List (Str × V) → List (Str × Dat) → Prop
  | nil : DRf K H [] []
  | cons {x : Str} {v : V} {vs : List (Str × V)} {d : Dat} {ds : List (Str × Dat)} : DR K H v d → DRf K H vs ds → DRf K H ((x, v) :: vs) ((x, d) :: ds)
inductive DRk (K : PySem.W.Frag) (H : Hp) : List (Key × V) → List (Key × Dat) → Prop
  | nil : DRk K H [] []
  | cons {x : Key} {v : V} {vs : List (Key × V)} {d : Dat} {ds : List (Key × Dat)} : DR K H v d → DRk K H vs ds → DRk K H ((x, v) :: vs) ((x, d) :: ds)
end

section
variable {K : PySem.W.Frag} {H H' : Hp}
mutual
theorem DR.mono (e : Ex H H') : ∀ {v : V} {d : Dat}, DR K H v d → DR K H' v d
  | _, _, .non => .non
  | _, _, .ty n => .ty n
  | _, _, .cls n => .cls n
  | _, _, .exc0 h => .exc0 (e _ _ h)
  | _, _, .exc1 h h2 r => .exc1 (e _ _ h) (e _ _ h2) (DRf.mono e r)
  | _, _, .bl b => .bl b
  | _, _, .int i => .int i
  | _, _, .txt cs => .txt cs
  | _, _, .lst h r => .lst (e _ _ h) (DRs.mono e r)
  | _, _, .scr h => .scr (ex_l e h)
  | _, _, .tup h r => .tup (ex_t e h) (DRs.mono e r)
  | _, _, .ins h r => .ins (e _ _ h) (DRf.mono e r)
  | _, _, .dct h r => .dct (h.imp (e _ _) fun ⟨o, h⟩ => ⟨o, e _ _ h⟩) (DRk.mono e r)
theorem DRs.mono (e : Ex H H') : ∀ {v : List V} {d : List Dat}, DRs K H v d → DRs K H' v d
  | _, _, .nil => .nil
  | _, _, .cons h r => .cons (DR.mono e h) (DRs.mono e r)
theorem DRf.mono (e : Ex H H') : ∀ {v : List (Str × V)} {d : List (Str × Dat)}, DRf K H v d → DRf K H' v d
  | _, _, .nil => .nil
  | _, _, .cons h r => .cons (DR.mono e h) (DRf.mono e r)
theorem DRk.mono (e : Ex H H') : ∀ {v : List (Key × V)} {d : List (Key × Dat)}, DRk K H v d → DRk K H' v d
  | _, _, .nil => .nil
  | _, _, .cons h r => .cons (DR.mono e h) (DRk.mono e r)
end
theorem DRs.length : ∀ {vs : List V} {ds : List Dat}, DRs K H vs ds → vs.length = ds.length
  | _, _, .nil => rfl
  | _, _, .cons _ r => by rw [List.length_cons, List.length_cons, DRs.length r]
theorem DRs.get : ∀ {vs : List V} {ds : List Dat} {i : Nat} {v : V}, DRs K H vs ds → vs[i]? = some v → ∃ d, ds[i]? = some d ∧ DR K H v d
  | _, _, _, _, .nil, e => by simp at e
  | _, _, 0, _, .cons h _, e => by simp at e; subst e; exact ⟨_, rfl, h⟩
  | _, _, i + 1, v, .cons _ r, e => by
    obtain ⟨d, h1, h2⟩ := DRs.get (i := i) (v := v) r (by simpa using e)
    exact ⟨d, by simpa using h1, h2⟩
theorem DRs.at : ∀ {vs : List V} {ds : List Dat} {i : Nat} {d : Dat}, DRs K H vs ds → ds[i]? = some d → ∃ v, vs[i]? = some v ∧ DR K H v d
  | _, _, _, _, .nil, e => by simp at e
  | _, _, 0, _, .cons h _, e => by simp at e; subst e; exact ⟨_, rfl, h⟩
  | _, _, i + 1, v, .cons _ r, e => by
    obtain ⟨d, h1, h2⟩ := DRs.at (i := i) (d := v) r (by simpa using e)
    exact ⟨d, by simpa using h1, h2⟩
theorem DRs.append : ∀ {vs ws : List V} {ds es : List Dat}, DRs K H vs ds → DRs K H ws es → DRs K H (vs ++ ws) (ds ++ es)
  | _, _, _, _, .nil, s => s
  | _, _, _, _, .cons h r, s => .cons h (DRs.append r s)
theorem DRs.take : ∀ {vs : List V} {ds : List Dat} (n : Nat), DRs K H vs ds → DRs K H (vs.take n) (ds.take n)
  | _, _, 0, _ => .nil
  | _, _, _ + 1, .nil => .nil
  | _, _, n + 1, .cons h r => .cons h (DRs.take n r)
theorem DRs.drop : ∀ {vs : List V} {ds : List Dat} (n : Nat), DRs K H vs ds → DRs K H (vs.drop n) (ds.drop n)
  | _, _, 0, r => r
  | _, _, _ + 1, .nil => .nil
  | _, _, n + 1, .cons _ r => DRs.drop n r
theorem DRf.lookup : ∀ {fs : List (Str × V)} {gs : List (Str × Dat)} {f : Str} {d : Dat}, DRf K H fs gs → gs.lookup f = some d → ∃ v, fs.lookup f = some v ∧ DR K H v d
  | _, _, _, _, .nil, e => by simp at e
  | _, _, f, d, @DRf.cons _ _ x v vs d' ds h r, e => by
    rw [List.lookup_cons] at e ⊢
    cases q : (f == x) with
    | true => rw [q] at e; cases e; exact ⟨v, rfl, h⟩
    | false => rw [q] at e; exact DRf.lookup (f := f) (d := d) r e
theorem DRf.none : ∀ {fs : List (Str × V)} {gs : List (Str × Dat)} {f : Str}, DRf K H fs gs → gs.lookup f = none → fs.lookup f = none
  | _, _, _, .nil, e => rfl
  | _, _, f, @DRf.cons _ _ x v vs d' ds h r, e => by
    rw [List.lookup_cons] at e ⊢
    cases q : (f == x) with
    | true => rw [q] at e; cases e
    | false => rw [q] at e; exact DRf.none (f := f) r e
/-- lists of numbers, of truths, of texts -/
theorem DRs.ints : ∀ {vs : List V} {ns : List Int}, DRs K H vs (ns.map .int) → vs = ns.map V.int
  | _, [], .nil => rfl
  | _, n :: ns, .cons (.int _) r => by rw [DRs.ints r]; rfl
theorem DRs.bls : ∀ {vs : List V} {ns : List Bool}, DRs K H vs (ns.map .bl) → vs = ns.map V.bl
  | _, [], .nil => rfl
  | _, n :: ns, .cons (.bl _) r => by rw [DRs.bls r]; rfl
def strL (cs : List Nat) : Str := ⟨cs.toArray⟩
theorem DRs.txts : ∀ {vs : List V} {ns : List (List Nat)}, DRs K H vs (ns.map .txt) → vs = (ns.map strL).map V.str
  | _, [], .nil => rfl
  | _, n :: ns, .cons (.txt _) r => by rw [DRs.txts r]; rfl
theorem DRs.ofInts : ∀ (ns : List Int), DRs K H (ns.map V.int) (ns.map .int)
  | [] => .nil
  | n :: ns => .cons (.int n) (DRs.ofInts ns)
theorem DRs.ofTxts : ∀ (ns : List (List Nat)), DRs K H ((ns.map strL).map V.str) (ns.map .txt)
  | [] => .nil
  | n :: ns => .cons (.txt n) (DRs.ofTxts ns)
theorem DR.ofStr (x : Str) : DR K H (.str x) (.txt x.cps.toList) := by
  have h : DR K H (.str ⟨x.cps.toList.toArray⟩) (.txt x.cps.toList) := .txt _
  rw [Array.toArray_toList] at h
  exact h
end
theorem strL_len (cs : List Nat) : (strL cs).length = cs.length := by simp [strL, Str.length]
theorem strL_cps (cs : List Nat) : (strL cs).cps.toList = cs := by simp [strL]
theorem strL_app (a b : List Nat) : strL a ++ strL b = strL (a ++ b) := by
  show (⟨a.toArray ++ b.toArray⟩ : Str) = ⟨(a ++ b).toArray⟩
  rw [List.append_toArray]
theorem strL_inj {a b : List Nat} (h : strL a = strL b) : a = b := by
  have := congrArg (fun s => s.cps.toList) h
  simpa [strL] using this

/-! ### the frozen part G of a heap H grows; what H has besides stays -/
structure Grow (G H G' H' : Hp) : Prop where
  g : Ex G G'
  s : Ex G' H'
  h : Ex H H'
  m : ∀ a, G a = none → H a ≠ none → G' a = none
theorem Grow.refl {G H : Hp} (e : Ex G H) : Grow G H G H := ⟨Evl.Ex.refl _, e, Evl.Ex.refl _, fun _ h _ => h⟩
theorem ex_some_ne {H H' : Hp} (e : Ex H H') {a : Addr} (h : H a ≠ none) : H' a ≠ none := by
  cases q : H a with
  | none => exact absurd q h
  | some o => rw [e a o q]; simp
theorem Grow.trans {G H G1 H1 G2 H2 : Hp} (a : Grow G H G1 H1) (b : Grow G1 H1 G2 H2) : Grow G H G2 H2 :=
  ⟨a.g.trans b.g, b.s, a.h.trans b.h, fun c h1 h2 => b.m c (a.m c h1 h2) (ex_some_ne a.h h2)⟩
theorem ex_upd2 {G H : Hp} {p : Addr} {o : HO} (e : Ex G H) : Ex (upd G p o) (upd H p o) := fun a u h => by
  by_cases q : a = p
  · subst q; rw [upd_same] at h ⊢; exact h
  · rw [upd_ne q] at h ⊢; exact e a u h
theorem Grow.new {G H : Hp} {p : Addr} {o : HO} (e : Ex G H) (hp : H p = none) : Grow G H (upd G p o) (upd H p o) := by
  have gp : G p = none := fresh_back e hp
  refine ⟨Evl.Ex.new gp, ex_upd2 e, Evl.Ex.new hp, fun a h1 h2 => ?_⟩
  have q : a ≠ p := fun z => by subst z; exact h2 hp
  rw [upd_ne q]; exact h1
/-- an object that is not frozen may be new -/
theorem Grow.newM {G H : Hp} {p : Addr} {o : HO} (e : Ex G H) (hp : H p = none) : Grow G H G (upd H p o) := by
  refine ⟨Evl.Ex.refl _, fun a u h => ?_, Evl.Ex.new hp, fun a h1 h2 => h1⟩
  exact Evl.Ex.new hp a u (e a u h)

/-! ### what one owns: a tree of objects that may be changed; its leaves are frozen data -/
inductive OD where
  | dat (d : Dat) | pl (ds : List Dat) | pd (kvs : List (Key × Dat)) | ins (C : Addr) (fs : List (Str × OD)) | lst (os : List OD) | tup (os : List OD) | dct (kvs : List (Key × OD)) | me (a : Addr) (o : OD)
mutual
def frz : OD → Dat
  | .dat d => d
  | .pl ds => .lst ds
  | .pd kvs => .dct kvs
  | .ins C fs => .ins C (frzf fs)
  | .lst os => .lst (frzs os)
  | .tup os => .tup (frzs os)
  | .dct kvs => .dct (frzk kvs)
  | .me _ o => frz o
def frzs : List OD → List Dat
  | [] => []
  | o :: r => frz o :: frzs r
def frzf : List (Str × OD) → List (Str × Dat)
  | [] => []
  | (x, o) :: r => (x, frz o) :: frzf r
def frzk : List (Key × OD) → List (Key × Dat)
  | [] => []
  | (x, o) :: r => (x, frz o) :: frzk r
end
mutual
inductive OR (K : PySem.W.Frag) (G H : Hp) : V → OD → List Addr → Prop
  | dat {v : V} {d : Dat} : DR K G v d → OR K G H v (.dat d) []
  | pl {a : Addr} {xs : List V} {ds : List Dat} : H a = some (.lst xs) → DRs K G xs ds → OR K G H (.ref a) (.pl ds) [a]
  | pd {a : Addr} {kvs : List (Key × V)} {es : List (Key × Dat)} : H a = some (.dK kvs) → DRk K G kvs es → OR K G H (.ref a) (.pd es) [a]
  | ins {a C dx : Addr} {fs : List (Str × V)} {gs : List (Str × OD)} {S : List Addr} : H a = some (.ins C dx fs) → ORf K G H fs gs S → a ∉ S → OR K G H (.ref a) (.ins C gs) (a :: S)
  | lst {a : Addr} {xs : List V} {os : List OD} {S : List Addr} : H a = some (.lst xs) → ORs K G H xs os S → a ∉ S → OR K G H (.ref a) (.lst os) (a :: S)
  | tup {a : Addr} {xs : List V} {os : List OD} {S : List Addr} : H a = some (.tup xs) → ORs K G H xs os S → a ∉ S → OR K G H (.ref a) (.tup os) (a :: S)
  | dct {a : Addr} {kvs : List (Key × V)} {es : List (Key × OD)} {S : List Addr} : H a = some (.dK kvs) → ORk K G H kvs es S → a ∉ S → OR K G H (.ref a) (.dct es) (a :: S)
  | me {a : Addr} {o : OD} {S : List Addr} : OR K G H (.ref a) o S → OR K G H (.ref a) (.me a o) S
inductive ORs (K : PySem.W.Frag) (G H : Hp) : List V → List OD → List Addr → Prop
  | nil : ORs K G H [] [] []
  | cons {v : V} {vs : List V} {o : OD} {os : List OD} {S T : List Addr} : OR K G H v o S → ORs K G H vs os T → (∀ a ∈ S, a ∉ T) → ORs K G H (v :: vs) (o :: os) (S ++ T)
inductive ORf (K : PySem.W.Frag) (G H : Hp) : List (Str × V) → List (Str × OD) → List Addr → Prop
  | nil : ORf K G H [] [] []
  | cons {x : Str} {v : V} {vs : List (Str × V)} {o : OD} {os : List (Str × OD)} {S T : List Addr} : OR K G H v o S → ORf K G H vs os T → (∀ a ∈ S, a ∉ T) → ORf K G H ((x, v) :: vs) ((x, o) :: os) (S ++ T)
inductive ORk (K : PySem.W.Frag) (G H : Hp) : List (Key × V) → List (Key × OD) → List Addr → Prop
  | nil : ORk K G H [] [] []
  | cons {x : Key} {v : V} {vs : List (Key × V)} {o : OD} {os : List (Key × OD)} {S T : List Addr} : OR K G H v o S → ORk K G H vs os T → (∀ a ∈ S, a ∉ T) → ORk K G H ((x, v) :: vs) ((x, o) :: os) (S ++ T)
end
section
variable {K : PySem.W.Frag} {G H G' H' : Hp}
mutual
/-- what one owns stays where its own objects stay -/
theorem OR.keep (e : Ex G G') : ∀ {v : V} {o : OD} {S : List Addr}, OR K G H v o S → (∀ a ∈ S, ∀ u, H a = some u → H' a = some u) → OR K G' H' v o S
  | _, _, _, .dat r, _ => .dat (r.mono e)
  | _, _, _, .pl h r, k => .pl (k _ List.mem_cons_self _ h) (r.mono e)
  | _, _, _, .pd h r, k => .pd (k _ List.mem_cons_self _ h) (r.mono e)
  | _, _, _, .ins h r n, k => .ins (k _ List.mem_cons_self _ h) (ORf.keep e r fun a ha => k a (List.mem_cons_of_mem _ ha)) n
  | _, _, _, .lst h r n, k => .lst (k _ List.mem_cons_self _ h) (ORs.keep e r fun a ha => k a (List.mem_cons_of_mem _ ha)) n
  | _, _, _, .tup h r n, k => .tup (k _ List.mem_cons_self _ h) (ORs.keep e r fun a ha => k a (List.mem_cons_of_mem _ ha)) n
  | _, _, _, .dct h r n, k => .dct (k _ List.mem_cons_self _ h) (ORk.keep e r fun a ha => k a (List.mem_cons_of_mem _ ha)) n
  | _, _, _, .me r, k => .me (OR.keep e r k)
theorem ORs.keep (e : Ex G G') : ∀ {v : List V} {o : List OD} {S : List Addr}, ORs K G H v o S → (∀ a ∈ S, ∀ u, H a = some u → H' a = some u) → ORs K G' H' v o S
  | _, _, _, .nil, _ => .nil
  | _, _, _, .cons h r n, k => .cons (OR.keep e h fun a ha => k a (List.mem_append_left _ ha)) (ORs.keep e r fun a ha => k a (List.mem_append_right _ ha)) n
theorem ORf.keep (e : Ex G G') : ∀ {v : List (Str × V)} {o : List (Str × OD)} {S : List Addr}, ORf K G H v o S → (∀ a ∈ S, ∀ u, H a = some u → H' a = some u) → ORf K G' H' v o S
  | _, _, _, .nil, _ => .nil
  | _, _, _, .cons h r n, k => .cons (OR.keep e h fun a ha => k a (List.mem_append_left _ ha)) (ORf.keep e r fun a ha => k a (List.mem_append_right _ ha)) n
theorem ORk.keep (e : Ex G G') : ∀ {v : List (Key × V)} {o : List (Key × OD)} {S : List Addr}, ORk K G H v o S → (∀ a ∈ S, ∀ u, H a = some u → H' a = some u) → ORk K G' H' v o S
  | _, _, _, .nil, _ => .nil
  | _, _, _, .cons h r n, k => .cons (OR.keep e h fun a ha => k a (List.mem_append_left _ ha)) (ORk.keep e r fun a ha => k a (List.mem_append_right _ ha)) n
end
theorem ne_of_some {a : Addr} {u : HO} (h : H a = some u) : H a ≠ none := by rw [h]; simp
mutual
theorem OR.there : ∀ {v : V} {o : OD} {S : List Addr}, OR K G H v o S → ∀ a ∈ S, H a ≠ none
  | _, _, _, .dat r, a, h => by cases h
  | _, _, _, .pl h r, a, ha => by rcases List.mem_cons.mp ha with e | e; · rw [e]; exact ne_of_some h
                                  · cases e
  | _, _, _, .pd h r, a, ha => by rcases List.mem_cons.mp ha with e | e; · rw [e]; exact ne_of_some h
                                  · cases e
  | _, _, _, .ins h r _, a, ha => by rcases List.mem_cons.mp ha with e | e; · rw [e]; exact ne_of_some h
                                     · exact ORf.there r a e
  | _, _, _, .lst h r _, a, ha => by rcases List.mem_cons.mp ha with e | e; · rw [e]; exact ne_of_some h
                                     · exact ORs.there r a e
  | _, _, _, .tup h r _, a, ha => by rcases List.mem_cons.mp ha with e | e; · rw [e]; exact ne_of_some h
                                     · exact ORs.there r a e
  | _, _, _, .dct h r _, a, ha => by rcases List.mem_cons.mp ha with e | e; · rw [e]; exact ne_of_some h
                                     · exact ORk.there r a e
  | _, _, _, .me r, a, ha => OR.there r a ha
theorem ORs.there : ∀ {v : List V} {o : List OD} {S : List Addr}, ORs K G H v o S → ∀ a ∈ S, H a ≠ none
  | _, _, _, .nil, a, h => by cases h
  | _, _, _, .cons h r n, a, ha => by rcases List.mem_append.mp ha with e | e; · exact OR.there h a e
                                      · exact ORs.there r a e
theorem ORf.there : ∀ {v : List (Str × V)} {o : List (Str × OD)} {S : List Addr}, ORf K G H v o S → ∀ a ∈ S, H a ≠ none
  | _, _, _, .nil, a, h => by cases h
  | _, _, _, .cons h r n, a, ha => by rcases List.mem_append.mp ha with e | e; · exact OR.there h a e
                                      · exact ORf.there r a e
theorem ORk.there : ∀ {v : List (Key × V)} {o : List (Key × OD)} {S : List Addr}, ORk K G H v o S → ∀ a ∈ S, H a ≠ none
  | _, _, _, .nil, a, h => by cases h
  | _, _, _, .cons h r n, a, ha => by rcases List.mem_append.mp ha with e | e; · exact OR.there h a e
                                      · exact ORk.there r a e
end
mutual
/-- what one owns is frozen -/
theorem OR.frz (e : Ex G G') : ∀ {v : V} {o : OD} {S : List Addr}, OR K G H v o S → (∀ a ∈ S, ∀ u, H a = some u → G' a = some u) → DR K G' v (frz o)
  | _, _, _, .dat r, _ => r.mono e
  | _, _, _, .pl h r, k => .lst (k _ List.mem_cons_self _ h) (r.mono e)
  | _, _, _, .pd h r, k => .dct (.inl (k _ List.mem_cons_self _ h)) (r.mono e)
  | _, _, _, .ins h r n, k => .ins (k _ List.mem_cons_self _ h) (ORf.frz e r fun a ha => k a (List.mem_cons_of_mem _ ha))
  | _, _, _, .lst h r n, k => .lst (k _ List.mem_cons_self _ h) (ORs.frz e r fun a ha => k a (List.mem_cons_of_mem _ ha))
  | _, _, _, .tup h r n, k => .tup (.inl (.inl (k _ List.mem_cons_self _ h))) (ORs.frz e r fun a ha => k a (List.mem_cons_of_mem _ ha))
  | _, _, _, .dct h r n, k => .dct (.inl (k _ List.mem_cons_self _ h)) (ORk.frz e r fun a ha => k a (List.mem_cons_of_mem _ ha))
  | _, .me _ o, _, .me r, k => OR.frz (o := o) e r k
theorem ORs.frz (e : Ex G G') : ∀ {v : List V} {o : List OD} {S : List Addr}, ORs K G H v o S → (∀ a ∈ S, ∀ u, H a = some u → G' a = some u) → DRs K G' v (frzs o)
  | _, _, _, .nil, _ => .nil
  | _, _, _, .cons h r n, k => .cons (OR.frz e h fun a ha => k a (List.mem_append_left _ ha)) (ORs.frz e r fun a ha => k a (List.mem_append_right _ ha))
theorem ORf.frz (e : Ex G G') : ∀ {v : List (Str × V)} {o : List (Str × OD)} {S : List Addr}, ORf K G H v o S → (∀ a ∈ S, ∀ u, H a = some u → G' a = some u) → DRf K G' v (frzf o)
  | _, _, _, .nil, _ => .nil
  | _, _, _, .cons h r n, k => .cons (OR.frz e h fun a ha => k a (List.mem_append_left _ ha)) (ORf.frz e r fun a ha => k a (List.mem_append_right _ ha))
theorem ORk.frz (e : Ex G G') : ∀ {v : List (Key × V)} {o : List (Key × OD)} {S : List Addr}, ORk K G H v o S → (∀ a ∈ S, ∀ u, H a = some u → G' a = some u) → DRk K G' v (frzk o)
  | _, _, _, .nil, _ => .nil
  | _, _, _, .cons h r n, k => .cons (OR.frz e h fun a ha => k a (List.mem_append_left _ ha)) (ORk.frz e r fun a ha => k a (List.mem_append_right _ ha))
end
end
/-- what is owned at S is changed: it is at S' then; all else stays -/
structure Chg (G H : Hp) (S : List Addr) (G' H' : Hp) (S' : List Addr) : Prop where
  g : Ex G G'
  s : Ex G' H'
  k : ∀ a u, a ∉ S → H a = some u → H' a = some u
  m : ∀ a, G a = none → H a ≠ none → a ∉ S → G' a = none
  n : ∀ a ∈ S', (a ∈ S ∨ H a = none) ∧ G' a = none
theorem Chg.refl {G H : Hp} {S : List Addr} (e : Ex G H) (h : ∀ a ∈ S, G a = none) : Chg G H S G H S := ⟨Evl.Ex.refl _, e, fun _ _ _ h => h, fun _ h _ _ => h, fun a ha => ⟨.inl ha, h a ha⟩⟩
theorem Chg.of {G H G' H' : Hp} {S : List Addr} (g : Grow G H G' H') (h : ∀ a ∈ S, G a = none ∧ H a ≠ none) : Chg G H S G' H' S := ⟨g.g, g.s, fun a u _ h => g.h a u h, fun a h1 h2 _ => g.m a h1 h2, fun a ha => ⟨.inl ha, g.m a (h a ha).1 (h a ha).2⟩⟩
theorem Chg.trans {G H G1 H1 G2 H2 : Hp} {S S1 S2 : List Addr} (a : Chg G H S G1 H1 S1) (b : Chg G1 H1 S1 G2 H2 S2) (h0 : ∀ x ∈ S1, H1 x ≠ none) : Chg G H S G2 H2 S2 := by
  have out : ∀ x, x ∉ S → H x ≠ none → x ∉ S1 := fun x hx hh h1 => by
    rcases (a.n x h1).1 with z | z
    · exact hx z
    · exact hh z
  refine ⟨a.g.trans b.g, b.s, fun x u hx hu => b.k x u (out x hx (by rw [hu]; simp)) (a.k x u hx hu), fun x h1 h2 h3 => ?_, fun x hx => ?_⟩
  · have h4 : H1 x ≠ none := by
      cases q : H x with
      | none => exact absurd q h2
      | some u => rw [a.k x u h3 q]; simp
    exact b.m x (a.m x h1 h2 h3) h4 (out x h3 h2)
  · refine ⟨?_, (b.n x hx).2⟩
    rcases (b.n x hx).1 with z | z
    · exact (a.n x z).1
    · by_cases q : x ∈ S
      · exact .inl q
      · refine .inr ?_
        cases w : H x with
        | none => rfl
        | some u => rw [a.k x u q w] at z; cases z
/-! ### slots -/
inductive Sl where
  | no | dat (d : Dat) | mt (o : OD)
abbrev Sl.own (ds : List Dat) : Sl := .mt (.pl ds)
structure Sat (K : PySem.W.Frag) (G0 B0 : Hp) (ρ : List Sl) (σ : L2.St) (G H : Hp) : Prop where
  gr : Grow G0 B0 G H
  len : σ.length = ρ.length
  dat : ∀ (i : Nat) d, ρ[i]? = some (.dat d) → ∃ v, σ[i]? = some (some v) ∧ DR K G v d
  fp : ∃ F : Nat → List Addr, (∀ (i : Nat) o, ρ[i]? = some (.mt o) → ∃ v, σ[i]? = some (some v) ∧ OR K G H v o (F i) ∧ ∀ a ∈ F i, G a = none ∧ B0 a = none) ∧
    (∀ (i j : Nat) o o', i ≠ j → ρ[i]? = some (.mt o) → ρ[j]? = some (.mt o') → ∀ a ∈ F i, a ∉ F j)

section
variable {K : PySem.W.Frag} {G0 B0 G H G' H' : Hp} {ρ : List Sl} {σ : L2.St}
theorem Sat.own (S : Sat K G0 B0 ρ σ G H) (i : Nat) (ds : List Dat) (h : ρ[i]? = some (.own ds)) : ∃ p vs, σ[i]? = some (some (.ref p)) ∧ G p = none ∧ B0 p = none ∧ H p = some (.lst vs) ∧ DRs K G vs ds := by
  obtain ⟨F, f1, f2⟩ := S.fp
  obtain ⟨v, h1, h2, h3⟩ := f1 i _ h
  generalize F i = T at h2 h3
  cases h2 with
  | pl k1 k2 => exact ⟨_, _, h1, (h3 _ List.mem_cons_self).1, (h3 _ List.mem_cons_self).2, k1, k2⟩
theorem Sat.grow (S : Sat K G0 B0 ρ σ G H) (g : Grow G H G' H') : Sat K G0 B0 ρ σ G' H' := by
  obtain ⟨F, f1, f2⟩ := S.fp
  refine ⟨S.gr.trans g, S.len, fun i d h => ?_, F, fun i o h => ?_, f2⟩
  · obtain ⟨v, h1, h2⟩ := S.dat i d h
    exact ⟨v, h1, h2.mono g.g⟩
  · obtain ⟨v, h1, h2, h3⟩ := f1 i o h
    exact ⟨v, h1, h2.keep g.g fun a _ u hu => g.h a u hu, fun a ha => ⟨g.m a (h3 a ha).1 (h2.there a ha), (h3 a ha).2⟩⟩
theorem set_cases {i j : Nat} {s t : Sl} (h : (ρ.set i s)[j]? = some t) : (i = j ∧ t = s ∧ i < ρ.length) ∨ (i ≠ j ∧ ρ[j]? = some t) := by
  by_cases q : i = j
  · subst q
    rw [List.getElem?_set_self'] at h
    cases z : ρ[i]? with
    | none => rw [z] at h; simp at h
    | some w => rw [z] at h; simp at h; exact .inl ⟨rfl, h.symm, (List.getElem?_eq_some_iff.mp z).1⟩
  · rw [List.getElem?_set_ne q] at h
    exact .inr ⟨q, h⟩
theorem set_at {i : Nat} {o : Option V} (hl : i < σ.length) : (σ.set i o)[i]? = some o := by rw [List.getElem?_set_self hl]
/-- a slot is given a datum -/
theorem Sat.set (S : Sat K G0 B0 ρ σ G H) {i : Nat} {v : V} {d : Dat} (r : DR K G v d) : Sat K G0 B0 (ρ.set i (.dat d)) (σ.set i (some v)) G H := by
  obtain ⟨F, f1, f2⟩ := S.fp
  refine ⟨S.gr, by rw [List.length_set, List.length_set]; exact S.len, fun j e h => ?_, F, fun j o h => ?_, fun j k o o' n h1 h2 => ?_⟩
  · rcases set_cases h with ⟨rfl, z, hl⟩ | ⟨q, h⟩
    · cases z
      exact ⟨v, set_at (by rw [S.len]; exact hl), r⟩
    · rw [List.getElem?_set_ne q]; exact S.dat j e h
  · rcases set_cases h with ⟨rfl, z, hl⟩ | ⟨q, h⟩
    · cases z
    · rw [List.getElem?_set_ne q]; exact f1 j o h
  · rcases set_cases h1 with ⟨rfl, z, hl⟩ | ⟨q, h1⟩
    · cases z
    · rcases set_cases h2 with ⟨rfl, z, hl⟩ | ⟨q, h2⟩
      · cases z
      · exact f2 j k o o' n h1 h2
/-- a slot is forgotten -/
theorem Sat.forget (S : Sat K G0 B0 ρ σ G H) {i : Nat} {o : Option V} : Sat K G0 B0 (ρ.set i .no) (σ.set i o) G H := by
  obtain ⟨F, f1, f2⟩ := S.fp
  refine ⟨S.gr, by rw [List.length_set, List.length_set]; exact S.len, fun j e h => ?_, F, fun j o h => ?_, fun j k o o' n h1 h2 => ?_⟩
  · rcases set_cases h with ⟨rfl, z, hl⟩ | ⟨q, h⟩
    · cases z
    · rw [List.getElem?_set_ne q]; exact S.dat j e h
  · rcases set_cases h with ⟨rfl, z, hl⟩ | ⟨q, h⟩
    · cases z
    · rw [List.getElem?_set_ne q]; exact f1 j o h
  · rcases set_cases h1 with ⟨rfl, z, hl⟩ | ⟨q, h1⟩
    · cases z
    · rcases set_cases h2 with ⟨rfl, z, hl⟩ | ⟨q, h2⟩
      · cases z
      · exact f2 j k o o' n h1 h2
def updF (F : Nat → List Addr) (i : Nat) (T : List Addr) (j : Nat) : List Addr := if j = i then T else F j
theorem updF_same {F : Nat → List Addr} {i : Nat} {T : List Addr} : updF F i T i = T := if_pos rfl
theorem updF_ne {F : Nat → List Addr} {i j : Nat} {T : List Addr} (q : i ≠ j) : updF F i T j = F j := if_neg fun z => q z.symm
/-- a slot is given a new thing of one's own -/
theorem Sat.newMut (S : Sat K G0 B0 ρ σ G H) (g : Grow G H G' H') {i : Nat} {v : V} {o : OD} {T : List Addr} (r : OR K G' H' v o T) (hT : ∀ a ∈ T, H a = none ∧ G' a = none) : Sat K G0 B0 (ρ.set i (.mt o)) (σ.set i (some v)) G' H' := by
  have S1 := S.grow g
  obtain ⟨F, f1, f2⟩ := S.fp
  refine ⟨S1.gr, by rw [List.length_set, List.length_set]; exact S.len, fun j e h => ?_, updF F i T, fun j o' h => ?_, fun j k o1 o2 n h1 h2 => ?_⟩
  · rcases set_cases h with ⟨rfl, z, hl⟩ | ⟨q, h⟩
    · cases z
    · rw [List.getElem?_set_ne q]; exact S1.dat j e h
  · rcases set_cases h with ⟨rfl, z, hl⟩ | ⟨q, h⟩
    · cases z
      refine ⟨v, set_at (by rw [S.len]; exact hl), ?_⟩
      rw [updF_same]
      exact ⟨r, fun a ha => ⟨(hT a ha).2, fresh_back S.gr.h (hT a ha).1⟩⟩
    · rw [List.getElem?_set_ne q, updF_ne q]
      obtain ⟨w, h1, h2, h3⟩ := f1 j o' h
      exact ⟨w, h1, h2.keep g.g fun a _ u hu => g.h a u hu, fun a ha => ⟨g.m a (h3 a ha).1 (h2.there a ha), (h3 a ha).2⟩⟩
  · rcases set_cases h1 with ⟨rfl, z, hl⟩ | ⟨q, h1⟩
    · rcases set_cases h2 with ⟨rfl, z2, hl2⟩ | ⟨q2, h2⟩
      · exact absurd rfl n
      · intro a ha
        rw [updF_same] at ha
        rw [updF_ne q2]
        obtain ⟨w, k1, k2, k3⟩ := f1 k o2 h2
        exact fun hb => k2.there a hb (hT a ha).1
    · rcases set_cases h2 with ⟨rfl, z2, hl2⟩ | ⟨q2, h2⟩
      · intro a ha
        rw [updF_ne q] at ha
        rw [updF_same]
        obtain ⟨w, k1, k2, k3⟩ := f1 j o1 h1
        exact fun hb => k2.there a ha (hT a hb).1
      · intro a ha
        rw [updF_ne q] at ha
        rw [updF_ne q2]
        exact f2 j k o1 o2 n h1 h2 a ha
/-- what is owned in a slot -/
theorem Sat.at (S : Sat K G0 B0 ρ σ G H) {i : Nat} {o : OD} (h : ρ[i]? = some (.mt o)) : ∃ v T, σ[i]? = some (some v) ∧ OR K G H v o T ∧ (∀ a ∈ T, G a = none ∧ B0 a = none) ∧
    ∀ o' G' H' T', Chg G H T G' H' T' → OR K G' H' v o' T' → Sat K G0 B0 (ρ.set i (.mt o')) σ G' H' := by
  obtain ⟨F, f1, f2⟩ := S.fp
  obtain ⟨v, h1, h2, h3⟩ := f1 i o h
  refine ⟨v, F i, h1, h2, h3, fun o' G' H' T' c r => ?_⟩
  have hi : i < ρ.length := (List.getElem?_eq_some_iff.mp h).1
  have keep : ∀ j o2, i ≠ j → ρ[j]? = some (.mt o2) → ∀ a ∈ F j, a ∉ F i := fun j o2 n hj a ha hb => f2 i j o o2 n h hj a hb ha
  refine ⟨⟨S.gr.g.trans c.g, c.s, fun a u hu => c.k a u (fun ha => ?_) (S.gr.h a u hu), fun a k1 k2 => ?_⟩, by rw [List.length_set]; exact S.len, fun j e hj => ?_, updF F i T', fun j o2 hj => ?_, fun j k o1 o2 n g1 g2 => ?_⟩
  · rw [(h3 a ha).2] at hu; cases hu
  · refine c.m a (S.gr.m a k1 k2) (ex_some_ne S.gr.h k2) fun ha => k2 (h3 a ha).2
  · rcases set_cases hj with ⟨rfl, z, hl⟩ | ⟨q, hj⟩
    · cases z
    · obtain ⟨w, k1, k2⟩ := S.dat j e hj
      exact ⟨w, k1, k2.mono c.g⟩
  · rcases set_cases hj with ⟨rfl, z, hl⟩ | ⟨q, hj⟩
    · cases z
      refine ⟨v, h1, ?_⟩
      rw [updF_same]
      refine ⟨r, fun a ha => ⟨(c.n a ha).2, ?_⟩⟩
      rcases (c.n a ha).1 with z | z
      · exact (h3 a z).2
      · exact fresh_back S.gr.h z
    · obtain ⟨w, k1, k2, k3⟩ := f1 j o2 hj
      rw [updF_ne q]
      exact ⟨w, k1, k2.keep c.g fun a ha u hu => c.k a u (keep j o2 q hj a ha) hu, fun a ha => ⟨c.m a (k3 a ha).1 (k2.there a ha) (keep j o2 q hj a ha), (k3 a ha).2⟩⟩
  · rcases set_cases g1 with ⟨rfl, z, hl⟩ | ⟨q, g1⟩
    · rcases set_cases g2 with ⟨rfl, z2, hl2⟩ | ⟨q2, g2⟩
      · exact absurd rfl n
      · intro a ha
        rw [updF_same] at ha
        rw [updF_ne q2]
        intro hb
        rcases (c.n a ha).1 with z | z
        · exact keep k o2 q2 g2 a hb z
        · obtain ⟨w, k1, k2, k3⟩ := f1 k o2 g2
          exact k2.there a hb z
    · rcases set_cases g2 with ⟨rfl, z2, hl2⟩ | ⟨q2, g2⟩
      · intro a ha
        rw [updF_ne q] at ha
        rw [updF_same]
        intro hb
        rcases (c.n a hb).1 with z | z
        · exact keep j o1 q g1 a ha z
        · obtain ⟨w, k1, k2, k3⟩ := f1 j o1 g1
          exact k2.there a ha z
      · intro a ha
        rw [updF_ne q] at ha
        rw [updF_ne q2]
        exact f2 j k o1 o2 n g1 g2 a ha
/-- one's own list is changed -/
theorem Sat.write (S : Sat K G0 B0 ρ σ G H) {i : Nat} {p : Addr} {vs : List V} {ds es : List Dat} (hρ : ρ[i]? = some (.own ds)) (hσ : σ[i]? = some (some (.ref p))) (r : DRs K G vs es) :
    Sat K G0 B0 (ρ.set i (.own es)) σ G (upd H p (.lst vs)) := by
  obtain ⟨v, T, h1, h2, h3, h4⟩ := S.at hρ
  cases h2 with
  | @pl p' ws _ k1 k2 =>
    have e : p = p' := by rw [hσ] at h1; simpa using h1
    subst e
    have hp := h3 p List.mem_cons_self
    refine h4 (.pl es) G _ [p] ⟨Evl.Ex.refl _, S.gr.s.mut hp.1, fun a u ha hu => ?_, fun a q1 q2 q3 => q1, fun a ha => ⟨.inl ha, ?_⟩⟩ (.pl upd_same r)
    · rw [upd_ne (fun z => ha (by rw [z]; exact List.mem_cons_self))]; exact hu
    · rcases List.mem_cons.mp ha with z | z
      · rw [z]; exact hp.1
      · cases z
/-- all that is owned is frozen -/
def frzSl : Sl → Sl
  | .mt o => .dat (frz o)
  | s => s
/-- one's own thing is frozen -/
theorem Sat.freezeM (S : Sat K G0 B0 ρ σ G H) {i : Nat} {o : OD} (hρ : ρ[i]? = some (.mt o)) : ∃ G', Sat K G0 B0 (ρ.set i (.dat (frz o))) σ G' H ∧ Ex G G' := by
  obtain ⟨F, f1, f2⟩ := S.fp
  obtain ⟨v, h1, h2, h3⟩ := f1 i o hρ
  have eg : Ex G (fun a => if a ∈ F i then H a else G a) := fun a u hu => by
    by_cases q : a ∈ F i
    · rw [(h3 a q).1] at hu; cases hu
    · show (if a ∈ F i then H a else G a) = some u
      rw [if_neg q]; exact hu
  have es : Ex (fun a => if a ∈ F i then H a else G a) H := fun a u hu => by
    have hu : (if a ∈ F i then H a else G a) = some u := hu
    by_cases q : a ∈ F i
    · rw [if_pos q] at hu; exact hu
    · rw [if_neg q] at hu; exact S.gr.s a u hu
  refine ⟨_, ⟨⟨S.gr.g.trans eg, es, S.gr.h, fun a k1 k2 => ?_⟩, by rw [List.length_set]; exact S.len, fun j e hj => ?_, F, fun j o2 hj => ?_, fun j k o1 o2 n g1 g2 => ?_⟩, eg⟩
  · show (if a ∈ F i then H a else G a) = none
    rw [if_neg (fun q => k2 (h3 a q).2)]
    exact S.gr.m a k1 k2
  · rcases set_cases hj with ⟨rfl, z, hl⟩ | ⟨q, hj⟩
    · cases z
      refine ⟨v, h1, h2.frz eg fun a ha u hu => ?_⟩
      show (if a ∈ F i then H a else G a) = some u
      rw [if_pos ha]; exact hu
    · obtain ⟨w, k1, k2⟩ := S.dat j e hj
      exact ⟨w, k1, k2.mono eg⟩
  · rcases set_cases hj with ⟨rfl, z, hl⟩ | ⟨q, hj⟩
    · cases z
    · obtain ⟨w, k1, k2, k3⟩ := f1 j o2 hj
      refine ⟨w, k1, k2.keep eg fun a _ u hu => hu, fun a ha => ⟨?_, (k3 a ha).2⟩⟩
      show (if a ∈ F i then H a else G a) = none
      rw [if_neg (fun q2 => f2 i j o o2 q hρ hj a q2 ha)]
      exact (k3 a ha).1
  · rcases set_cases g1 with ⟨rfl, z, hl⟩ | ⟨q, g1⟩
    · cases z
    · rcases set_cases g2 with ⟨rfl, z2, hl2⟩ | ⟨q2, g2⟩
      · cases z2
      · exact f2 j k o1 o2 n g1 g2
theorem Sat.freeze (S : Sat K G0 B0 ρ σ G H) {i : Nat} {ds : List Dat} (hρ : ρ[i]? = some (.own ds)) : ∃ G', Sat K G0 B0 (ρ.set i (.dat (.lst ds))) σ G' H := by
  obtain ⟨G', h, _⟩ := S.freezeM hρ
  exact ⟨G', h⟩
/-- all that is owned is looked at: frozen, and one's own again -/
theorem Sat.peek (S : Sat K G0 B0 ρ σ G H) : ∃ G1, Sat K G1 G1 (ρ.map frzSl) σ G1 H ∧ ∀ G2 H2, Grow G1 H G2 H2 → ∃ G3, Grow G H G3 H2 ∧ ∀ a, H a = none → G3 a = G2 a := by
  obtain ⟨F, f1, f2⟩ := S.fp
  classical
  let P : Addr → Prop := fun a => ∃ i o, ρ[i]? = some (Sl.mt o) ∧ a ∈ F i
  have hP : ∀ a, P a → G a = none ∧ H a ≠ none := fun a ⟨i, o, h, ha⟩ => by
    obtain ⟨v, h1, h2, h3⟩ := f1 i o h
    exact ⟨(h3 a ha).1, h2.there a ha⟩
  have eg : Ex G (fun a => if P a then H a else G a) := fun a u hu => by
    show (if P a then H a else G a) = some u
    rw [if_neg (fun q => by rw [(hP a q).1] at hu; cases hu)]; exact hu
  have es : Ex (fun a => if P a then H a else G a) H := fun a u hu => by
    have hu : (if P a then H a else G a) = some u := hu
    by_cases q : P a
    · rw [if_pos q] at hu; exact hu
    · rw [if_neg q] at hu; exact S.gr.s a u hu
  refine ⟨fun a => if P a then H a else G a, ⟨⟨Evl.Ex.refl _, es, es, fun a h _ => h⟩, by rw [List.length_map]; exact S.len, fun j e hj => ?_, fun _ => [], fun j o2 hj => ?_, fun j k o1 o2 n g1 g2 a ha => by cases ha⟩, fun G2 H2 g => ⟨fun a => if P a then none else G2 a, ⟨fun a u hu => ?_, fun a u hu => ?_, g.h, fun a k1 k2 => ?_⟩, fun a ha => ?_⟩⟩
  · rw [List.getElem?_map] at hj
    cases z : ρ[j]? with
    | none => rw [z] at hj; cases hj
    | some s =>
      rw [z] at hj
      have hj : frzSl s = .dat e := Option.some.inj hj
      cases s with
      | no => cases hj
      | dat d =>
        cases hj
        obtain ⟨w, k1, k2⟩ := S.dat j e z
        exact ⟨w, k1, k2.mono eg⟩
      | mt o =>
        cases hj
        obtain ⟨w, k1, k2, k3⟩ := f1 j o z
        refine ⟨w, k1, k2.frz eg fun a ha u hu => ?_⟩
        show (if P a then H a else G a) = some u
        rw [if_pos ⟨j, o, z, ha⟩]; exact hu
  · rw [List.getElem?_map] at hj
    cases z : ρ[j]? with
    | none => rw [z] at hj; cases hj
    | some s =>
      rw [z] at hj
      have hj : frzSl s = .mt o2 := Option.some.inj hj
      cases s <;> cases hj
  · have q : ¬ P a := fun q => by rw [(hP a q).1] at hu; cases hu
    show (if P a then none else G2 a) = some u
    rw [if_neg q]
    refine g.g a u ?_
    show (if P a then H a else G a) = some u
    rw [if_neg q]; exact hu
  · have hu : (if P a then none else G2 a) = some u := hu
    by_cases q : P a
    · rw [if_pos q] at hu; cases hu
    · rw [if_neg q] at hu; exact g.s a u hu
  · show (if P a then none else G2 a) = none
    by_cases q : P a
    · rw [if_pos q]
    · rw [if_neg q]
      refine g.m a ?_ k2
      show (if P a then H a else G a) = none
      rw [if_neg q]; exact k1
  · show (if P a then none else G2 a) = G2 a
    rw [if_neg (fun q => (hP a q).2 ha)]
end

/-! ### what a reading yields -/
def Sem (K : PySem.W.Frag) (t : TE) (ρ : List Sl) (d : Dat) : Prop :=
  ∀ G0 B0 σ G H, Sat K G0 B0 ρ σ G H → ∀ Q : VK, (∀ v G' H', Grow G H G' H' → DR K G' v d → Q v H') → t σ H Q
def SemT (K : PySem.W.Frag) (t : TT) (ρ : List Sl) (b : Bool) : Prop :=
  ∀ G0 B0 σ G H, Sat K G0 B0 ρ σ G H → ∀ Q : Bool → Hp → Prop, (∀ G' H', Grow G H G' H' → Q b H') → t σ H Q
def SemA (K : PySem.W.Frag) (t : TA) (ρ : List Sl) (ds : List Dat) : Prop :=
  ∀ G0 B0 σ G H, Sat K G0 B0 ρ σ G H → ∀ Q : List V → Hp → Prop, (∀ vs G' H', Grow G H G' H' → DRs K G' vs ds → Q vs H') → t σ H Q
/-- a new list that nobody else knows -/
def SemN (K : PySem.W.Frag) (t : TE) (ρ : List Sl) (ds : List Dat) : Prop :=
  ∀ G0 B0 σ G H, Sat K G0 B0 ρ σ G H → ∀ Q : VK, (∀ p vs G' H', Grow G H G' H' → H p = none → G' p = none → H' p = some (.lst vs) → DRs K G' vs ds → Q (.ref p) H') → t σ H Q
def SemO (K : PySem.W.Frag) (t : TO) (ρ : List Sl) (o : Option Int) : Prop :=
  ∀ G0 B0 σ G H, Sat K G0 B0 ρ σ G H → ∀ Q : Option Int → Hp → Prop, (∀ G' H', Grow G H G' H' → Q o H') → t σ H Q
/-- by values: an operation, a call -/
def OpS (K : PySem.W.Frag) (r : R2) (a b c : Dat) : Prop :=
  ∀ x y G H, Ex G H → DR K G x a → DR K G y b → ∀ Q : VK, (∀ v G' H', Grow G H G' H' → DR K G' v c → Q v H') → r x y H Q
def UnS (K : PySem.W.Frag) (r : V → Hp → VK → Prop) (a c : Dat) : Prop :=
  ∀ x G H, Ex G H → DR K G x a → ∀ Q : VK, (∀ v G' H', Grow G H G' H' → DR K G' v c → Q v H') → r x H Q
def CallS (K : PySem.W.Frag) (r : List V → Hp → VK → Prop) (ds : List Dat) (c : Dat) : Prop :=
  ∀ xs G H, Ex G H → DRs K G xs ds → ∀ Q : VK, (∀ v G' H', Grow G H G' H' → DR K G' v c → Q v H') → r xs H Q
def MtS (K : PySem.W.Frag) (r : V → List V → Hp → VK → Prop) (a : Dat) (ds : List Dat) (c : Dat) : Prop :=
  ∀ x xs G H, Ex G H → DR K G x a → DRs K G xs ds → ∀ Q : VK, (∀ v G' H', Grow G H G' H' → DR K G' v c → Q v H') → r x xs H Q
def SlS (K : PySem.W.Frag) (r : V → Option Int → Option Int → Hp → VK → Prop) (a : Dat) (lo hi : Option Int) (c : Dat) : Prop :=
  ∀ x G H, Ex G H → DR K G x a → ∀ Q : VK, (∀ v G' H', Grow G H G' H' → DR K G' v c → Q v H') → r x lo hi H Q

section
variable {K : PySem.W.Frag} {ρ : List Sl} {t ta tb tc te : TE} {a b c d : Dat}
theorem s_var {i : Nat} (h : ρ[i]? = some (.dat d)) : Sem K (tVar i) ρ d := fun G0 B0 σ G H S Q q => by
  obtain ⟨v, h1, h2⟩ := S.dat i d h
  exact ⟨v, h1, q v G H (Grow.refl S.gr.s) h2⟩
theorem s_c {v : V} (h : ∀ G, DR K G v d) : Sem K (tC v) ρ d := fun G0 B0 σ G H S Q q => q v G H (Grow.refl S.gr.s) (h G)
theorem s_int {i : Int} : Sem K (tC (.int i)) ρ (.int i) := s_c fun _ => .int i
theorem s_bl {i : Bool} : Sem K (tC (.bl i)) ρ (.bl i) := s_c fun _ => .bl i
theorem s_non : Sem K (tC .non) ρ .non := s_c fun _ => .non
theorem s_str {x : Str} : Sem K (tC (.str x)) ρ (.txt x.cps.toList) := s_c fun _ => .ofStr x
theorem s_op {r : R2} (ha : Sem K ta ρ a) (hb : Sem K tb ρ b) (hr : OpS K r a b c) : Sem K (tOp r ta tb) ρ c := fun G0 B0 σ G H S Q q =>
  ha _ _ _ _ _ S _ fun x G1 H1 g1 rx => hb _ _ _ _ _ (S.grow g1) _ fun y G2 H2 g2 ry => hr x y G2 H2 g2.s (rx.mono g2.g) ry Q fun v G3 H3 g3 rv => q v G3 H3 ((g1.trans g2).trans g3) rv
theorem s_un {r : V → Hp → VK → Prop} (ha : Sem K ta ρ a) (hr : UnS K r a c) : Sem K (tUn r ta) ρ c := fun G0 B0 σ G H S Q q =>
  ha _ _ _ _ _ S _ fun x G1 H1 g1 rx => hr x G1 H1 g1.s rx Q fun v G3 H3 g3 rv => q v G3 H3 (g1.trans g3) rv
theorem s_is {e : Dat} (h : Sem K t ρ d) (z : d = e) : Sem K t ρ e := z ▸ h
theorem st_is {e e' : Bool} {t : TT} (h : SemT K t ρ e) (z : e = e') : SemT K t ρ e' := z ▸ h
theorem s_chain {r r' : R2} {k l : Bool} (ha : Sem K ta ρ a) (hb : Sem K tb ρ b) (hr : OpS K r a b (.bl k)) (hc : k = true → Sem K tc ρ c) (hr' : k = true → OpS K r' b c (.bl l)) : Sem K (tChain r r' ta tb tc) ρ (.bl (k && l)) := fun G0 B0 σ G H S Q q =>
  ha _ _ _ _ _ S _ fun x G1 H1 g1 rx => hb _ _ _ _ _ (S.grow g1) _ fun y G2 H2 g2 ry => hr x y G2 H2 g2.s (rx.mono g2.g) ry _ fun v G3 H3 g3 rv => by
    cases rv
    refine ⟨k, rfl, ?_⟩
    cases k with
    | false => exact q _ G3 H3 ((g1.trans g2).trans g3) (.bl _)
    | true =>
      rw [if_pos rfl]
      exact hc rfl _ _ _ _ _ (((S.grow g1).grow g2).grow g3) _ fun w G4 H4 g4 rw' => hr' rfl y w G4 H4 g4.s (ry.mono (g3.trans g4).g) rw' Q fun v G5 H5 g5 rv => q v G5 H5 ((((g1.trans g2).trans g3).trans g4).trans g5) rv
theorem s_andV {k : Bool} (ha : Sem K ta ρ (.bl k)) (hb : k = true → Sem K tb ρ d) : Sem K (tAndV ta tb) ρ (if k then d else .bl false) := fun G0 B0 σ G H S Q q =>
  ha _ _ _ _ _ S _ fun x G1 H1 g1 rx => by
    cases rx
    refine ⟨k, rfl, ?_⟩
    cases k with
    | false => exact q _ G1 H1 g1 (.bl _)
    | true => rw [if_pos rfl]; exact hb rfl _ _ _ _ _ (S.grow g1) _ fun y G2 H2 g2 ry => q _ _ _ (g1.trans g2) ry
theorem s_orV {k : Bool} (ha : Sem K ta ρ (.bl k)) (hb : k = false → Sem K tb ρ d) : Sem K (tOrV ta tb) ρ (if k then .bl true else d) := fun G0 B0 σ G H S Q q =>
  ha _ _ _ _ _ S _ fun x G1 H1 g1 rx => by
    cases rx
    refine ⟨k, rfl, ?_⟩
    cases k with
    | true => exact q _ G1 H1 g1 (.bl _)
    | false => rw [if_neg (by simp)]; exact hb rfl _ _ _ _ _ (S.grow g1) _ fun y G2 H2 g2 ry => q _ _ _ (g1.trans g2) ry
theorem s_andB {k l : Bool} (ha : Sem K ta ρ (.bl k)) (hb : k = true → Sem K tb ρ (.bl l)) : Sem K (tAndV ta tb) ρ (.bl (k && l)) := s_is (s_andV ha hb) (by cases k <;> rfl)
theorem s_orB {k l : Bool} (ha : Sem K ta ρ (.bl k)) (hb : k = false → Sem K tb ρ (.bl l)) : Sem K (tOrV ta tb) ρ (.bl (k || l)) := s_is (s_orV ha hb) (by cases k <;> rfl)
theorem s_notB {k : Bool} (ha : Sem K ta ρ (.bl k)) : Sem K (tNotV ta) ρ (.bl (!k)) := fun G0 B0 σ G H S Q q =>
  ha _ _ _ _ _ S _ fun x G1 H1 g1 rx => by
    cases rx
    exact ⟨k, rfl, q _ G1 H1 g1 (.bl _)⟩
theorem s_if {u : TT} {k : Bool} (h : SemT K u ρ k) (ha : k = true → Sem K ta ρ a) (hb : k = false → Sem K tb ρ b) : Sem K (tIf u ta tb) ρ (if k then a else b) := fun G0 B0 σ G H S Q q =>
  h _ _ _ _ _ S _ fun G1 H1 g1 => by
    cases k with
    | true => rw [if_pos rfl]; exact ha rfl _ _ _ _ _ (S.grow g1) _ fun y G2 H2 g2 ry => q _ _ _ (g1.trans g2) ry
    | false => rw [if_neg (by simp)]; exact hb rfl _ _ _ _ _ (S.grow g1) _ fun y G2 H2 g2 ry => q _ _ _ (g1.trans g2) ry
/-! tests -/
theorem st_and {u w : TT} {k l : Bool} (ha : SemT K u ρ k) (hb : k = true → SemT K w ρ l) : SemT K (tAnd u w) ρ (k && l) := fun G0 B0 σ G H S Q q =>
  ha _ _ _ _ _ S _ fun G1 H1 g1 => by
    cases k with
    | true => rw [if_pos rfl]; exact hb rfl _ _ _ _ _ (S.grow g1) _ fun G2 H2 g2 => q _ _ (g1.trans g2)
    | false => rw [if_neg (by simp)]; exact q _ _ g1
theorem st_or {u w : TT} {k l : Bool} (ha : SemT K u ρ k) (hb : k = false → SemT K w ρ l) : SemT K (tOr u w) ρ (k || l) := fun G0 B0 σ G H S Q q =>
  ha _ _ _ _ _ S _ fun G1 H1 g1 => by
    cases k with
    | true => rw [if_pos rfl]; exact q _ _ g1
    | false => rw [if_neg (by simp)]; exact hb rfl _ _ _ _ _ (S.grow g1) _ fun G2 H2 g2 => q _ _ (g1.trans g2)
theorem st_not {u : TT} {k : Bool} (ha : SemT K u ρ k) : SemT K (tNot u) ρ (!k) := fun G0 B0 σ G H S Q q =>
  ha _ _ _ _ _ S _ fun G1 H1 g1 => q _ _ g1
/-- a datum's truth -/
def truD : Dat → Bool
  | .non => false
  | .bl b => b
  | .int i => i != 0
  | .txt cs => !cs.isEmpty
  | .lst xs => !xs.isEmpty
  | .tup xs => !xs.isEmpty
  | .ins _ _ => true
  | .dct kvs => !kvs.isEmpty
  | .scr ns => !ns.isEmpty
  | .ty _ => true
  | .cls _ => true
  | .exc _ _ => true
def txtFits : Dat → Prop
  | .txt cs => cs.length ≤ sizeLine
  | .ins _ _ => False
  | .dct _ => False
  | .ty _ => False
  | .cls _ => False
  | .exc _ _ => False
  | _ => True
theorem DRs.isEmpty {H : Hp} {vs : List V} {ds : List Dat} (r : DRs K H vs ds) : (!vs.isEmpty) = !ds.isEmpty := by cases r <;> rfl
theorem DRk.isEmpty {H : Hp} {vs : List (Key × V)} {ds : List (Key × Dat)} (r : DRk K H vs ds) : (!vs.isEmpty) = !ds.isEmpty := by cases r <;> rfl
theorem st_tru (ha : Sem K ta ρ d) (hf : txtFits d) : SemT K (tTru K ta) ρ (truD d) := fun G0 B0 σ G H S Q q =>
  ha _ _ _ _ _ S _ fun x G1 H1 g1 rx => by
    refine ⟨truD d, ?_, q _ _ g1⟩
    cases rx with
    | non => rfl
    | ty n => exact hf.elim
    | cls n => exact hf.elim
    | exc0 h => exact hf.elim
    | exc1 h h2 r => exact hf.elim
    | bl b => rfl
    | int i => rfl
    | txt cs =>
      refine ⟨by
        have hf' : cs.length ≤ sizeLine := hf
        simpa [Str.length] using hf', ?_⟩
      cases cs <;> simp [truD, Str.length]
      omega
    | lst h r => exact .inl ⟨_, .inl (.inl (g1.s _ _ h)), r.isEmpty.symm⟩
    | @scr a ns h => exact .inl ⟨_, ex_l g1.s h, by cases ns <;> rfl⟩
    | tup h r => exact .inr (.inl ⟨_, ex_t g1.s h, r.isEmpty.symm⟩)
    | ins h r => exact hf.elim
    | dct h r => exact hf.elim
theorem st_bl {k : Bool} (ha : Sem K ta ρ (.bl k)) : SemT K (tTru K ta) ρ k := st_tru ha trivial
/-! arguments, displays, slices, calls -/
theorem sa_nil : SemA K tNil ρ [] := fun G0 B0 σ G H S Q q => q [] G H (Grow.refl S.gr.s) .nil
theorem sa_cons {tr : TA} {ds : List Dat} (ha : Sem K ta ρ a) (hr : SemA K tr ρ ds) : SemA K (tCons ta tr) ρ (a :: ds) := fun G0 B0 σ G H S Q q =>
  ha _ _ _ _ _ S _ fun x G1 H1 g1 rx => hr _ _ _ _ _ (S.grow g1) _ fun xs G2 H2 g2 rs => q _ _ _ (g1.trans g2) (.cons (rx.mono g2.g) rs)
theorem s_tup {u : TA} {ds : List Dat} (h : SemA K u ρ ds) (hl : ds.length ≤ sizeLine := by decide) : Sem K (tTup u) ρ (.tup ds) := fun G0 B0 σ G H S Q q =>
  h _ _ _ _ _ S _ fun xs G1 H1 g1 rs => ⟨by rw [rs.length]; exact hl, fun p hp => q _ _ _ (g1.trans (Grow.new g1.s hp)) (.tup (.inl (.inl upd_same)) (rs.mono (Evl.Ex.new (fresh_back g1.s hp))))⟩
theorem s_lst {u : TA} {ds : List Dat} (h : SemA K u ρ ds) (hl : ds.length ≤ sizeLine := by decide) : Sem K (tLst u) ρ (.lst ds) := fun G0 B0 σ G H S Q q =>
  h _ _ _ _ _ S _ fun xs G1 H1 g1 rs => ⟨by rw [rs.length]; exact hl, fun p hp => q _ _ _ (g1.trans (Grow.new g1.s hp)) (.lst upd_same (rs.mono (Evl.Ex.new (fresh_back g1.s hp))))⟩
theorem sn_lst {u : TA} {ds : List Dat} (h : SemA K u ρ ds) (hl : ds.length ≤ sizeLine := by decide) : SemN K (tLst u) ρ ds := fun G0 B0 σ G H S Q q =>
  h _ _ _ _ _ S _ fun xs G1 H1 g1 rs => ⟨by rw [rs.length]; exact hl, fun p hp => q p xs G1 _ (g1.trans (Grow.newM g1.s hp)) (fresh_back g1.h hp) (fresh_back g1.s hp) upd_same rs⟩
/-- a new list, told as a datum -/
theorem s_ofN {ds : List Dat} (h : SemN K t ρ ds) : Sem K t ρ (.lst ds) := fun G0 B0 σ G H S Q q =>
  h _ _ _ _ _ S _ fun p vs G1 H1 g1 hp hg h1 rs => by
    refine q (.ref p) (upd G1 p (.lst vs)) H1 ⟨g1.g.trans (Evl.Ex.new hg), fun a u e => ?_, g1.h, fun a e1 e2 => ?_⟩ (.lst upd_same (rs.mono (Evl.Ex.new hg)))
    · by_cases z : a = p
      · subst z; rw [upd_same] at e; cases e; exact h1
      · rw [upd_ne z] at e; exact g1.s a u e
    · have z : a ≠ p := fun z => by subst z; exact e2 hp
      rw [upd_ne z]; exact g1.m a e1 e2
theorem so_none : SemO K tNoPart ρ none := fun G0 B0 σ G H S Q q => q G H (Grow.refl S.gr.s)
theorem so_some {i : Int} (h : Sem K te ρ (.int i)) : SemO K (tPart te) ρ (some i) := fun G0 B0 σ G H S Q q => h _ _ _ _ _ S _ fun x G1 H1 g1 rx => by
  cases rx
  exact ⟨i, rfl, q _ _ g1⟩
theorem s_sl {r : V → Option Int → Option Int → Hp → VK → Prop} {tl th : TO} {lo hi : Option Int} (h : Sem K te ρ a) (h1 : SemO K tl ρ lo) (h2 : SemO K th ρ hi) (hr : SlS K r a lo hi c) : Sem K (tSl r te tl th) ρ c := fun G0 B0 σ G H S Q q =>
  h _ _ _ _ _ S _ fun x G1 H1 g1 rx => h1 _ _ _ _ _ (S.grow g1) _ fun G2 H2 g2 => h2 _ _ _ _ _ ((S.grow g1).grow g2) _ fun G3 H3 g3 =>
    hr x G3 H3 g3.s (rx.mono (g2.trans g3).g) Q fun v G4 H4 g4 rv => q v G4 H4 (((g1.trans g2).trans g3).trans g4) rv
theorem s_cb {r : List V → Hp → VK → Prop} {u : TA} {ds : List Dat} (h : SemA K u ρ ds) (hr : CallS K r ds c) : Sem K (tCB r u) ρ c := fun G0 B0 σ G H S Q q =>
  h _ _ _ _ _ S _ fun xs G1 H1 g1 rs => hr xs G1 H1 g1.s rs Q fun v G2 H2 g2 rv => q v G2 H2 (g1.trans g2) rv
theorem s_m0 {r : V → List V → Hp → VK → Prop} {cs : List Nat} (h : Sem K te ρ (.txt cs)) (hr : MtS K r (.txt cs) [] c) : Sem K (tM0 r te) ρ c := fun G0 B0 σ G H S Q q =>
  h _ _ _ _ _ S _ fun x G1 H1 g1 rx => ⟨by cases rx; exact ⟨_, rfl⟩, hr x [] G1 H1 g1.s rx .nil Q fun v G2 H2 g2 rv => q v G2 H2 (g1.trans g2) rv⟩
theorem s_m1 {r : V → List V → Hp → VK → Prop} {cs : List Nat} (h : Sem K ta ρ (.txt cs)) (h1 : Sem K te ρ d) (hr : MtS K r (.txt cs) [d] c) : Sem K (tM1 r ta te) ρ c := fun G0 B0 σ G H S Q q =>
  h _ _ _ _ _ S _ fun x G1 H1 g1 rx => ⟨by cases rx; exact ⟨_, rfl⟩, h1 _ _ _ _ _ (S.grow g1) _ fun y G2 H2 g2 ry =>
    hr x [y] G2 H2 g2.s (rx.mono g2.g) (.cons ry .nil) Q fun v G3 H3 g3 rv => q v G3 H3 ((g1.trans g2).trans g3) rv⟩
/-- a def's promise by data: R of what is handed in and what is told -/
def spD (K : PySem.W.Frag) (R : List Dat → Dat → Prop) : Sp := fun vs H Q _ => ∃ G ds d, Ex G H ∧ DRs K G vs ds ∧ R ds d ∧ ∀ v G' H', Grow G H G' H' → DR K G' v d → Q v H'
theorem s_call {R : List Dat → Dat → Prop} {E : XK} {u : TA} {ds : List Dat} (h : SemA K u ρ ds) (hr : R ds c) : Sem K (tCall (spD K R) [] E u) ρ c := fun G0 B0 σ G H S Q q =>
  h _ _ _ _ _ S _ fun xs G1 H1 g1 rs => ⟨G1, ds, c, g1.s, by rw [List.append_nil]; exact rs, hr, fun v G2 H2 g2 rv => q v G2 H2 (g1.trans g2) rv⟩
end
end DL

set_option Elab.async false
set_option linter.all false
set_option maxRecDepth 100000
namespace DL
open PySem PySem.Spec PyProof.Rows L2
open Evl (Ex ex_l ex_t fresh_back)

/-! ### operators for all data at once -/
def uAdd (K : PySem.W.Frag) : R2 := fun x y H Q => (∃ i j, x = .int i ∧ y = .int j ∧ Q (.int (i + j)) H) ∨ (∃ i j, x = .str i ∧ y = .str j ∧ i.length + j.length ≤ sizeLine ∧ Q (.str (i ++ j)) H) ∨ rCat x y H Q ∨ rCatA K x y H Q
def uSub : R2 := fun x y H Q => ∃ i j, x = .int i ∧ y = .int j ∧ Q (.int (i - j)) H
def uMul : R2 := fun x y H Q => (∃ i j, x = .int i ∧ y = .int j ∧ CMul i j ∧ Q (.int (i * j)) H) ∨ (∃ a n, x = .str a ∧ y = .int n ∧ MulOk a n ∧ Q (.str (Txt.mul a n)) H)
def uDiv : R2 := fun x y H Q => ∃ i j, x = .int i ∧ y = .int j ∧ CDiv i j ∧ Q (.int (i / j)) H
def uMod : R2 := fun x y H Q => ∃ i j, x = .int i ∧ y = .int j ∧ 0 < j ∧ Q (.int (i % j)) H
def uEq (K : PySem.W.Frag) : R2 := fun x y H Q => rEq x y H Q ∨ rEqD K x y H Q
def uNe (K : PySem.W.Frag) : R2 := fun x y H Q => rNe x y H Q ∨ rNeD K x y H Q
def uLt : R2 := fun x y H Q => (∃ i j, x = .int i ∧ y = .int j ∧ Q (.bl (decide (i < j))) H)
def uLe : R2 := fun x y H Q => (∃ i j, x = .int i ∧ y = .int j ∧ Q (.bl (decide (i ≤ j))) H)
def uGt : R2 := fun x y H Q => (∃ i j, x = .int i ∧ y = .int j ∧ Q (.bl (decide (j < i))) H)
def uGe : R2 := fun x y H Q => (∃ i j, x = .int i ∧ y = .int j ∧ Q (.bl (decide (j ≤ i))) H)
def uIn (K : PySem.W.Frag) : R2 := fun x y H Q => (∃ (c : Nat) (z : Str), x = .str ⟨#[c]⟩ ∧ y = .str z ∧ Q (.bl (decide (c ∈ z.cps.toList))) H) ∨ rIn K false x y H Q ∨ rInD K x y H Q
def uNotIn (K : PySem.W.Frag) : R2 := fun x y H Q => (∃ (c : Nat) (z : Str), x = .str ⟨#[c]⟩ ∧ y = .str z ∧ Q (.bl (!decide (c ∈ z.cps.toList))) H) ∨ rIn K true x y H Q ∨ rNotInD K x y H Q
def uIs : R2 := fun x y H Q => (y = .non ∧ Q (.bl (decide (x = .non))) H) ∨ (∃ a b : Bool, x = .bl a ∧ y = .bl b ∧ Q (.bl (decide (a = b))) H)
def uIsNot : R2 := fun x y H Q => (y = .non ∧ Q (.bl (!decide (x = .non))) H) ∨ (∃ a b : Bool, x = .bl a ∧ y = .bl b ∧ Q (.bl (!decide (a = b))) H)
def uSl (K : PySem.W.Frag) : V → Option Int → Option Int → Hp → VK → Prop := fun x lo hi H Q => rSlS x lo hi H Q ∨ rSlL K x lo hi H Q ∨ rSlA K x lo hi H Q
def uNeg : V → Hp → VK → Prop := fun x H Q => ∃ i, x = .int i ∧ Q (.int (-i)) H
section
variable {X : Cx} {K : PySem.W.Frag}
theorem op_mul_str : OpR X (binaryOp .Mult) (fun x y H Q => ∃ a n, x = .str a ∧ y = .int n ∧ MulOk a n ∧ Q (.str (Txt.mul a n)) H) := by
  intro pins s σ H x y v u Q I rx ry h
  obtain ⟨a, n, rfl, rfl, hok, q⟩ := h
  obtain ⟨t, rfl⟩ := rx
  obtain ⟨t', rfl⟩ := ry
  exact SB.mul hok fun t' k => ⟨.str (Txt.mul a n), H, I.tok _, ⟨_, rfl⟩, q⟩
theorem ou_add (hK : X.K = K) : OpR X (binaryOp .Add) (uAdd K) := by
  subst hK
  exact OpR.or op_add (OpR.or op_add_str (OpR.or op_cat op_catA))
theorem ou_sub : OpR X (binaryOp .Sub) uSub := op_sub
theorem ou_mul : OpR X (binaryOp .Mult) uMul := OpR.or op_mul op_mul_str
theorem ou_div : OpR X (binaryOp .FloorDiv) uDiv := op_fdiv
theorem ou_mod : OpR X (binaryOp .Mod) uMod := op_mod
theorem ou_eq (hK : X.K = K) (hu : X.A.units + 64 < cLine) : OpR X (compareOp .Eq) (uEq K) := by
  subst hK
  exact OpR.or op_eq (op_eqD hu)
theorem ou_ne (hK : X.K = K) (hu : X.A.units + 64 < cLine) : OpR X (compareOp .NotEq) (uNe K) := by
  subst hK
  exact OpR.or op_ne (op_neD hu)
theorem ou_lt : OpR X (compareOp .Lt) uLt := op_lt
theorem ou_le : OpR X (compareOp .LtE) uLe := op_le
theorem ou_gt : OpR X (compareOp .Gt) uGt := op_gt
theorem ou_ge : OpR X (compareOp .GtE) uGe := op_ge
theorem ou_in (hK : X.K = K) (hu : X.A.units + 65 < cLine) : OpR X (compareOp .In) (uIn K) := by
  subst hK
  exact OpR.or op_in_sign (OpR.or op_in_seq (op_inD hu))
theorem ou_notin (hK : X.K = K) (hu : X.A.units + 65 < cLine) : OpR X (compareOp .NotIn) (uNotIn K) := by
  subst hK
  exact OpR.or op_notIn_sign (OpR.or op_notIn_seq (op_notInD hu))
theorem ou_is : OpR X (compareOp .Is) uIs := OpR.or op_isN op_is_bl
theorem ou_isnot : OpR X (compareOp .IsNot) uIsNot := OpR.or op_notN op_isnot_bl
theorem ou_neg : UnR X (unaryOp .USub) uNeg := un_neg
theorem ou_ix (hK : X.K = K) : IxR X (rIx K) := by
  subst hK
  exact ix_seq
theorem ou_sl (hK : X.K = K) : SlR X (uSl K) := by
  subst hK
  exact SlR.or sl_str (SlR.or sl_list sl_tupA)
theorem pt_any {a : Expr} {ta : TE} (hK : X.K = K) (ha : PE X a ta) (he : ∀ whole, isTrue a X.env whole = (do let v ← whole; standAt a.pos; holding [v] (truthy v)) := by intro _; rfl) : PT X a (tTru K ta) := by
  subst hK
  exact pt_truth ha he
theorem room65 {k : Nat} {A : Around} (r : Room k A) : A.units + 65 < cLine := by have := r.un; omega
theorem room64 {k : Nat} {A : Around} (r : Room k A) : A.units + 64 < cLine := by have := r.un; omega
end

/-! ### the operators by data -/
section
variable {K : PySem.W.Frag}
theorem os_val {r : R2} {a b c : Dat} (h : ∀ x y G H, Ex G H → DR K G x a → DR K G y b → ∃ v, (∀ G, DR K G v c) ∧ ∀ Q : VK, Q v H → r x y H Q) : OpS K r a b c := fun x y G H e rx ry Q q => by
  obtain ⟨v, h1, h2⟩ := h x y G H e rx ry
  exact h2 Q (q v G H (Grow.refl e) (h1 G))
theorem os_addI {i j : Int} : OpS K (uAdd K) (.int i) (.int j) (.int (i + j)) := fun x y G H e rx ry Q q => by
  cases rx; cases ry
  exact .inl ⟨i, j, rfl, rfl, q _ _ _ (Grow.refl e) (.int _)⟩
theorem os_addT {a b : List Nat} (h : a.length + b.length ≤ sizeLine) : OpS K (uAdd K) (.txt a) (.txt b) (.txt (a ++ b)) := fun x y G H e rx ry Q q => by
  cases rx; cases ry
  refine .inr (.inl ⟨_, _, rfl, rfl, by rw [← strL, ← strL, strL_len, strL_len]; exact h, q _ _ _ (Grow.refl e) ?_⟩)
  have z := strL_app a b
  unfold strL at z
  rw [z]
  exact .txt _
theorem os_addL {a b : List Dat} (h : a.length + b.length ≤ sizeLine) : OpS K (uAdd K) (.lst a) (.lst b) (.lst (a ++ b)) := fun x y G H e rx ry Q q => by
  cases rx with
  | lst h1 r1 =>
    cases ry with
    | lst h2 r2 =>
      refine .inr (.inr (.inl ⟨_, _, _, _, rfl, rfl, e _ _ h1, e _ _ h2, by rw [r1.length, r2.length]; exact h, fun p hp => q _ _ _ (Grow.new e hp) (.lst upd_same ?_)⟩))
      exact (r1.append r2).mono (Evl.Ex.new (fresh_back e hp))
theorem os_addU {a b : List Dat} (h : a.length + b.length ≤ sizeLine) : OpS K (uAdd K) (.tup a) (.tup b) (.tup (a ++ b)) := fun x y G H e rx ry Q q => by
  cases rx with
  | tup h1 r1 =>
    cases ry with
    | tup h2 r2 =>
      refine .inr (.inr (.inr ⟨_, _, _, _, rfl, rfl, ex_t e h1, ex_t e h2, by rw [r1.length, r2.length]; exact h, fun z => ?_, fun z w => ?_, fun z w p hp => ?_⟩))
      · subst z
        cases r1
        exact q _ _ _ (Grow.refl e) (.tup h2 r2)
      · subst w
        cases r2
        rw [List.append_nil] at q
        exact q _ _ _ (Grow.refl e) (.tup h1 r1)
      · exact q _ _ _ (Grow.new e hp) (.tup (.inl (.inl upd_same)) ((r1.append r2).mono (Evl.Ex.new (fresh_back e hp))))
theorem os_sub {i j : Int} : OpS K uSub (.int i) (.int j) (.int (i - j)) := fun x y G H e rx ry Q q => by
  cases rx; cases ry
  exact ⟨i, j, rfl, rfl, q _ _ _ (Grow.refl e) (.int _)⟩
theorem os_mul {i j : Int} (h : CMul i j) : OpS K uMul (.int i) (.int j) (.int (i * j)) := fun x y G H e rx ry Q q => by
  cases rx; cases ry
  exact .inl ⟨i, j, rfl, rfl, h, q _ _ _ (Grow.refl e) (.int _)⟩
theorem os_div {i j : Int} (h : 0 < j ∧ j < 1073741824) : OpS K uDiv (.int i) (.int j) (.int (i / j)) := fun x y G H e rx ry Q q => by
  cases rx; cases ry
  exact ⟨i, j, rfl, rfl, h, q _ _ _ (Grow.refl e) (.int _)⟩
theorem os_mod {i j : Int} (h : 0 < j) : OpS K uMod (.int i) (.int j) (.int (i % j)) := fun x y G H e rx ry Q q => by
  cases rx; cases ry
  exact ⟨i, j, rfl, rfl, h, q _ _ _ (Grow.refl e) (.int _)⟩
theorem os_lt {i j : Int} : OpS K uLt (.int i) (.int j) (.bl (decide (i < j))) := fun x y G H e rx ry Q q => by
  cases rx; cases ry
  exact ⟨i, j, rfl, rfl, q _ _ _ (Grow.refl e) (.bl _)⟩
theorem os_le {i j : Int} : OpS K uLe (.int i) (.int j) (.bl (decide (i ≤ j))) := fun x y G H e rx ry Q q => by
  cases rx; cases ry
  exact ⟨i, j, rfl, rfl, q _ _ _ (Grow.refl e) (.bl _)⟩
theorem os_gt {i j : Int} : OpS K uGt (.int i) (.int j) (.bl (decide (j < i))) := fun x y G H e rx ry Q q => by
  cases rx; cases ry
  exact ⟨i, j, rfl, rfl, q _ _ _ (Grow.refl e) (.bl _)⟩
theorem os_ge {i j : Int} : OpS K uGe (.int i) (.int j) (.bl (decide (j ≤ i))) := fun x y G H e rx ry Q q => by
  cases rx; cases ry
  exact ⟨i, j, rfl, rfl, q _ _ _ (Grow.refl e) (.bl _)⟩
theorem us_neg {i : Int} : UnS K uNeg (.int i) (.int (-i)) := fun x G H e rx Q q => by
  cases rx
  exact ⟨i, rfl, q _ _ _ (Grow.refl e) (.int _)⟩
theorem mul_list (a : List Nat) : ∀ (n : Nat) (acc : List Nat), (List.replicate n a.toArray).foldl (· ++ ·) acc.toArray = (acc ++ (List.replicate n a).flatten).toArray
  | 0, acc => by simp
  | n + 1, acc => by
    rw [List.replicate_succ, List.foldl_cons, List.append_toArray, mul_list a n (acc ++ a), List.replicate_succ, List.flatten_cons, List.append_assoc]
/-- a text so many times -/
theorem os_mulT {a : List Nat} {n : Nat} (h : 2 ≤ n) (h2 : n ≤ 1000) (hz : a.length ≤ 1000) : OpS K uMul (.txt a) (.int n) (.txt (List.replicate n a).flatten) := fun x y G H e rx ry Q q => by
  cases rx; cases ry
  have hm : a.length * n ≤ 1000 * 1000 := Nat.mul_le_mul hz h2
  have e1 : (⟨a.toArray⟩ : Str).length = a.length := by simp [Str.length]
  refine .inr ⟨_, _, rfl, rfl, ⟨?_, fun _ _ => ?_, fun _ _ => ?_⟩, ?_⟩
  · rw [Bool.or_eq_false_iff]
    exact ⟨decide_eq_false (by omega), decide_eq_false (by omega)⟩
  · rw [e1]
    have : (1000 : Int) ≤ (2 ^ 63 - 1) / (n : Int) := by
      rw [Int.le_ediv_iff_mul_le (by omega)]
      omega
    omega
  · rw [e1]
    have : Builtin.Str.tooLong (a.length * (n : Int).toNat) = false := by
      unfold Builtin.Str.tooLong sizeLine
      rw [Int.toNat_natCast]
      exact decide_eq_false (by omega)
    exact this
  · have z : Txt.mul ⟨a.toArray⟩ (n : Int) = strL (List.replicate n a).flatten := by
      unfold Txt.mul
      rw [if_neg (by omega), e1]
      cases a with
      | nil =>
        rw [if_pos (by simp)]
        have : (List.replicate n ([] : List Nat)).flatten = [] := by
          rw [List.flatten_eq_nil_iff]
          intro l hl
          exact (List.mem_replicate.mp hl).2
        rw [this]; rfl
      | cons c r =>
        rw [if_neg]
        · have := mul_list (c :: r) n []
          rw [Int.toNat_natCast]
          show Str.mk _ = Str.mk _
          rw [List.nil_append] at this
          exact congrArg Str.mk this
        · simp
          omega
    rw [z]
    exact q _ _ _ (Grow.refl e) (.txt _)
/-! equality -/
theorem strL_eq (a b : List Nat) : decide ((V.str ⟨a.toArray⟩ : V) = .str ⟨b.toArray⟩) = decide (a = b) := by
  by_cases h : a = b
  · subst h; simp
  · rw [decide_eq_false h]
    refine decide_eq_false fun z => h ?_
    exact strL_inj (V.str.inj z)
theorem os_eqT {a b : List Nat} : OpS K (uEq K) (.txt a) (.txt b) (.bl (decide (a = b))) := fun x y G H e rx ry Q q => by
  cases rx; cases ry
  refine .inl ⟨rfl, ?_⟩
  rw [strL_eq]
  exact q _ _ _ (Grow.refl e) (.bl _)
theorem os_neT {a b : List Nat} : OpS K (uNe K) (.txt a) (.txt b) (.bl (!decide (a = b))) := fun x y G H e rx ry Q q => by
  cases rx; cases ry
  refine .inl ⟨rfl, ?_⟩
  rw [strL_eq]
  exact q _ _ _ (Grow.refl e) (.bl _)
theorem int_eq (a b : Int) : decide ((V.int a : V) = .int b) = decide (a = b) := by
  by_cases h : a = b
  · subst h; simp
  · rw [decide_eq_false h]
    exact decide_eq_false fun z => h (V.int.inj z)
theorem bl_eq (a b : Bool) : decide ((V.bl a : V) = .bl b) = decide (a = b) := by cases a <;> cases b <;> rfl
theorem os_eqI {a b : Int} : OpS K (uEq K) (.int a) (.int b) (.bl (decide (a = b))) := fun x y G H e rx ry Q q => by
  cases rx; cases ry
  refine .inl ⟨rfl, ?_⟩
  rw [int_eq]
  exact q _ _ _ (Grow.refl e) (.bl _)
theorem os_neI {a b : Int} : OpS K (uNe K) (.int a) (.int b) (.bl (!decide (a = b))) := fun x y G H e rx ry Q q => by
  cases rx; cases ry
  refine .inl ⟨rfl, ?_⟩
  rw [int_eq]
  exact q _ _ _ (Grow.refl e) (.bl _)
theorem os_eqB {a b : Bool} : OpS K (uEq K) (.bl a) (.bl b) (.bl (decide (a = b))) := fun x y G H e rx ry Q q => by
  cases rx; cases ry
  refine .inl ⟨rfl, ?_⟩
  rw [bl_eq]
  exact q _ _ _ (Grow.refl e) (.bl _)
theorem os_neB {a b : Bool} : OpS K (uNe K) (.bl a) (.bl b) (.bl (!decide (a = b))) := fun x y G H e rx ry Q q => by
  cases rx; cases ry
  refine .inl ⟨rfl, ?_⟩
  rw [bl_eq]
  exact q _ _ _ (Grow.refl e) (.bl _)
/-! deep equality -/
mutual
def toPy : Dat → PyData
  | .non => .none
  | .bl b => .bool b
  | .int i => .int i
  | .txt cs => .str (strL cs)
  | .lst xs => .list (toPys xs)
  | .tup xs => .tuple (toPys xs)
  | .scr ns => .list (ns.map .int)
  | .ins _ _ => .none
  | .dct _ => .none
  | .ty _ => .none
  | .cls _ => .none
  | .exc _ _ => .none
def toPys : List Dat → List PyData
  | [] => []
  | x :: r => toPy x :: toPys r
end
/-! plain data: no objects, no dicts -/
mutual
def plainD : Dat → Bool
  | .non | .bl _ | .int _ | .txt _ | .scr _ => true
  | .lst xs => plainDs xs
  | .tup xs => plainDs xs
  | _ => false
def plainDs : List Dat → Bool
  | [] => true
  | x :: r => plainD x && plainDs r
end
theorem dpInts {H : Hp} : ∀ ns : List Int, DpAll K H (ns.map V.int) (ns.map .int)
  | [] => .nil
  | n :: r => .cons (.int n) (dpInts r)
mutual
theorem DR.dp {H : Hp} : ∀ {v : V} {d : Dat}, DR K H v d → plainD d = true → Dp K H v (toPy d)
  | _, _, .non, _ => .non
  | _, _, .bl b, _ => .bl b
  | _, _, .int i, _ => .int i
  | _, _, .txt cs, _ => .str _
  | _, _, .lst h r, p => .lst (.inl (.inl h)) (DRs.dp r (by simpa [plainD] using p))
  | _, _, .tup h r, p => .tup h (DRs.dp r (by simpa [plainD] using p))
  | _, _, @DR.scr _ _ a ns h, _ => .lst h (dpInts ns)
  | _, _, .ins _ _, p => by simp [plainD] at p
  | _, _, .dct _ _, p => by simp [plainD] at p
  | _, _, .ty _, p => by simp [plainD] at p
  | _, _, .cls _, p => by simp [plainD] at p
  | _, _, .exc0 _, p => by simp [plainD] at p
  | _, _, .exc1 _ _ _, p => by simp [plainD] at p
theorem DRs.dp {H : Hp} : ∀ {v : List V} {d : List Dat}, DRs K H v d → plainDs d = true → DpAll K H v (toPys d)
  | _, _, .nil, _ => .nil
  | _, _, .cons h r, p => by
    rw [plainDs, Bool.and_eq_true] at p
    exact .cons (DR.dp h p.1) (DRs.dp r p.2)
end
theorem os_eqD {a b : Dat} (pa : plainD a = true) (pb : plainD b = true) (sa : SeqAt.shaped (toPy a) = true) (sb : SeqAt.shaped (toPy b) = true) : OpS K (uEq K) a b (.bl (PyData.eqv (toPy a) (toPy b))) := fun x y G H e rx ry Q q =>
  .inr ⟨_, _, (rx.mono e).dp pa, (ry.mono e).dp pb, sa, sb, q _ _ _ (Grow.refl e) (.bl _)⟩
theorem os_neD {a b : Dat} (pa : plainD a = true) (pb : plainD b = true) (sa : SeqAt.shaped (toPy a) = true) (sb : SeqAt.shaped (toPy b) = true) : OpS K (uNe K) a b (.bl (!PyData.eqv (toPy a) (toPy b))) := fun x y G H e rx ry Q q =>
  .inr ⟨_, _, (rx.mono e).dp pa, (ry.mono e).dp pb, sa, sb, q _ _ _ (Grow.refl e) (.bl _)⟩
theorem lay_ints : ∀ ns : List Int, PyData.canLayAll0 (ns.map PyData.int) = true
  | [] => rfl
  | n :: r => by
    show (PyData.canLay0 (.int n) && PyData.canLayAll0 (r.map PyData.int)) = true
    rw [lay_ints r]; rfl
theorem depth_ints : ∀ ns : List Int, PyData.depthAll (ns.map PyData.int) = 0
  | [] => rfl
  | n :: r => by
    show max (PyData.depth (.int n)) (PyData.depthAll (r.map PyData.int)) = 0
    rw [depth_ints r]; rfl
theorem shaped_ints (ns : List Int) : SeqAt.shaped (.list (ns.map .int)) = true := by
  unfold SeqAt.shaped
  rw [Bool.and_eq_true]
  refine ⟨lay_ints ns, decide_eq_true ?_⟩
  show PyData.depthAll (ns.map PyData.int) + 1 ≤ 64
  rw [depth_ints]; decide
theorem os_neScr {ns : List Int} : OpS K (uNe K) (.scr ns) (.lst []) (.bl (!ns.isEmpty)) := by
  have h := os_neD (K := K) (a := .scr ns) (b := .lst []) rfl rfl (shaped_ints ns) (by decide +kernel)
  have e : PyData.eqv (toPy (.scr ns)) (toPy (.lst [])) = ns.isEmpty := by cases ns <;> rfl
  rw [e] at h
  exact h
/-! in -/
theorem os_inC {c : Nat} {b : List Nat} : OpS K (uIn K) (.txt [c]) (.txt b) (.bl (decide (c ∈ b))) := fun x y G H e rx ry Q q => by
  cases rx; cases ry
  exact .inl ⟨c, _, rfl, rfl, q _ _ _ (Grow.refl e) (.bl _)⟩
theorem os_notinC {c : Nat} {b : List Nat} : OpS K (uNotIn K) (.txt [c]) (.txt b) (.bl (!decide (c ∈ b))) := fun x y G H e rx ry Q q => by
  cases rx; cases ry
  exact .inl ⟨c, _, rfl, rfl, q _ _ _ (Grow.refl e) (.bl _)⟩
theorem flat_txts : ∀ bs : List (List Nat), ((bs.map strL).map V.str).all flatV = true
  | [] => rfl
  | b :: r => by
    show (true && ((r.map strL).map V.str).all flatV) = true
    rw [flat_txts r]; rfl
theorem inV_txts (a : List Nat) : ∀ bs : List (List Nat), inV (.str ⟨a.toArray⟩) ((bs.map strL).map V.str) = decide (a ∈ bs)
  | [] => rfl
  | b :: r => by
    have ih := inV_txts a r
    unfold inV at ih ⊢
    rw [List.map_cons, List.map_cons, List.any_cons, ih]
    have e : eqV (.str (strL b)) (.str ⟨a.toArray⟩) = decide (a = b) := by
      show (strL b == strL a) = decide (a = b)
      by_cases h : a = b
      · subst h; simp
      · rw [decide_eq_false h]
        exact beq_eq_false_iff_ne.mpr fun z => h (strL_inj z).symm
    rw [e]
    by_cases h : a = b
    · subst h; simp
    · simp [h]
theorem os_inTT {a : List Nat} {bs : List (List Nat)} : OpS K (uIn K) (.txt a) (.tup (bs.map .txt)) (.bl (decide (a ∈ bs))) := fun x y G H e rx ry Q q => by
  cases rx
  cases ry with
  | tup h r =>
    have z := r.txts
    subst z
    refine .inr (.inl ⟨_, _, rfl, .inr (ex_t e h), rfl, flat_txts bs, ?_⟩)
    rw [inV_txts]
    exact q _ _ _ (Grow.refl e) (.bl _)
theorem os_notinTT {a : List Nat} {bs : List (List Nat)} : OpS K (uNotIn K) (.txt a) (.tup (bs.map .txt)) (.bl (!decide (a ∈ bs))) := fun x y G H e rx ry Q q => by
  cases rx
  cases ry with
  | tup h r =>
    have z := r.txts
    subst z
    refine .inr (.inl ⟨_, _, rfl, .inr (ex_t e h), rfl, flat_txts bs, ?_⟩)
    rw [inV_txts]
    exact q _ _ _ (Grow.refl e) (.bl _)
theorem os_inTL {a : List Nat} {bs : List (List Nat)} : OpS K (uIn K) (.txt a) (.lst (bs.map .txt)) (.bl (decide (a ∈ bs))) := fun x y G H e rx ry Q q => by
  cases rx
  cases ry with
  | lst h r =>
    have z := r.txts
    subst z
    refine .inr (.inl ⟨_, _, rfl, .inl (.inl (.inl (e _ _ h))), rfl, flat_txts bs, ?_⟩)
    rw [inV_txts]
    exact q _ _ _ (Grow.refl e) (.bl _)
theorem os_notinTL {a : List Nat} {bs : List (List Nat)} : OpS K (uNotIn K) (.txt a) (.lst (bs.map .txt)) (.bl (!decide (a ∈ bs))) := fun x y G H e rx ry Q q => by
  cases rx
  cases ry with
  | lst h r =>
    have z := r.txts
    subst z
    refine .inr (.inl ⟨_, _, rfl, .inl (.inl (.inl (e _ _ h))), rfl, flat_txts bs, ?_⟩)
    rw [inV_txts]
    exact q _ _ _ (Grow.refl e) (.bl _)
/-! is -/
theorem os_isB {a b : Bool} : OpS K uIs (.bl a) (.bl b) (.bl (decide (a = b))) := fun x y G H e rx ry Q q => by
  cases rx; cases ry
  exact .inr ⟨a, b, rfl, rfl, q _ _ _ (Grow.refl e) (.bl _)⟩
theorem os_isnotB {a b : Bool} : OpS K uIsNot (.bl a) (.bl b) (.bl (!decide (a = b))) := fun x y G H e rx ry Q q => by
  cases rx; cases ry
  exact .inr ⟨a, b, rfl, rfl, q _ _ _ (Grow.refl e) (.bl _)⟩
def isNon : Dat → Bool
  | .non => true
  | _ => false
theorem DR.isNon {H : Hp} {v : V} {d : Dat} (r : DR K H v d) : decide (v = .non) = isNon d := by cases r <;> rfl
theorem os_isN {a : Dat} : OpS K uIs a .non (.bl (isNon a)) := fun x y G H e rx ry Q q => by
  cases ry
  refine .inl ⟨rfl, ?_⟩
  rw [rx.isNon]
  exact q _ _ _ (Grow.refl e) (.bl _)
theorem os_isnotN {a : Dat} : OpS K uIsNot a .non (.bl (!isNon a)) := fun x y G H e rx ry Q q => by
  cases ry
  refine .inl ⟨rfl, ?_⟩
  rw [rx.isNon]
  exact q _ _ _ (Grow.refl e) (.bl _)
/-! subscripts -/
theorem DRs.atI {H : Hp} {vs : List V} {ds : List Dat} {i : Int} {d : Dat} (r : DRs K H vs ds) (h : atI ds i = some d) : ∃ v, atI vs i = some v ∧ DR K H v d := by
  unfold L2.atI at h ⊢
  rw [r.length]
  cases z : ixN ds.length i with
  | none => rw [z] at h; cases h
  | some j => rw [z] at h; exact r.at h
theorem os_ixL {ds : List Dat} {i : Int} {d : Dat} (h : atI ds i = some d) : OpS K (rIx K) (.lst ds) (.int i) d := fun x y G H e rx ry Q q => by
  cases ry
  cases rx with
  | lst hl r =>
    obtain ⟨v, h1, h2⟩ := r.atI h
    exact .inl ⟨_, _, _, v, rfl, rfl, .inl (.inl (e _ _ hl)), h1, q _ _ _ (Grow.refl e) h2⟩
theorem os_ixU {ds : List Dat} {i : Int} {d : Dat} (h : atI ds i = some d) : OpS K (rIx K) (.tup ds) (.int i) d := fun x y G H e rx ry Q q => by
  cases ry
  cases rx with
  | tup hl r =>
    obtain ⟨v, h1, h2⟩ := r.atI h
    exact .inr (.inl ⟨_, _, _, v, rfl, rfl, ex_t e hl, h1, q _ _ _ (Grow.refl e) h2⟩)
theorem os_ixT {cs : List Nat} {i : Int} {c : Nat} (h : atI cs i = some c) (hz : cs.length ≤ sizeLine) : OpS K (rIx K) (.txt cs) (.int i) (.txt [c]) := fun x y G H e rx ry Q q => by
  cases ry
  cases rx
  exact .inr (.inr ⟨_, _, c, rfl, rfl, by rw [← strL, strL_len]; exact hz, h, q _ _ _ (Grow.refl e) (.txt [c])⟩)
theorem atI_map {α β : Type} (f : α → β) {xs : List α} {i : Int} {x : α} (h : atI xs i = some x) : atI (xs.map f) i = some (f x) := by
  unfold atI at h ⊢
  rw [List.length_map]
  cases z : ixN xs.length i with
  | none => rw [z] at h; cases h
  | some j =>
    rw [z] at h
    show (xs.map f)[j]? = some (f x)
    have h' : xs[j]? = some x := h
    rw [List.getElem?_map, h']
    rfl
theorem os_ixS {ns : List Int} {i : Int} {n : Int} (h : atI ns i = some n) : OpS K (rIx K) (.scr ns) (.int i) (.int n) := fun x y G H e rx ry Q q => by
  cases ry
  cases rx with
  | scr hl => exact .inl ⟨_, _, _, _, rfl, rfl, ex_l e hl, atI_map V.int h, q _ _ _ (Grow.refl e) (.int n)⟩
/-! slices -/
def cutL {α : Type} (xs : List α) (lo hi : Option Int) : List α := (xs.drop (HT.sIx xs.length 0 lo)).take (HT.sIx xs.length xs.length hi - HT.sIx xs.length 0 lo)
theorem ss_txt {cs : List Nat} {lo hi : Option Int} (hz : cs.length ≤ sizeLine) : SlS K (uSl K) (.txt cs) lo hi (.txt (cutL cs lo hi)) := fun x G H e rx Q q => by
  cases rx
  refine .inl ⟨_, rfl, by rw [← strL, strL_len]; exact hz, q _ _ _ (Grow.refl e) ?_⟩
  have z : cutS (strL cs) lo hi = strL (cutL cs lo hi) := by
    unfold cutS cutL
    rw [strL_len, strL_cps]
    rfl
  unfold strL at z
  rw [z]
  exact .txt _
theorem ss_lst {cs : List Dat} {lo hi : Option Int} : SlS K (uSl K) (.lst cs) lo hi (.lst (cutL cs lo hi)) := fun x G H e rx Q q => by
  cases rx with
  | lst h r =>
    refine .inr (.inl ⟨_, _, rfl, .inl (.inl (e _ _ h)), fun p hp => q _ _ _ (Grow.new e hp) (.lst upd_same ?_)⟩)
    unfold cutV cutL
    rw [r.length]
    exact ((r.drop _).take _).mono (Evl.Ex.new (fresh_back e hp))
theorem ss_tup {cs : List Dat} {lo hi : Option Int} : SlS K (uSl K) (.tup cs) lo hi (.tup (cutL cs lo hi)) := fun x G H e rx Q q => by
  cases rx with
  | tup h r =>
    refine .inr (.inr ⟨_, _, rfl, ex_t e h, fun z => ?_, fun z p hp => q _ _ _ (Grow.new e hp) (.tup (.inl (.inl upd_same)) ?_)⟩)
    · rw [r.length] at z
      have e2 : cutL cs lo hi = cs := by
        unfold cutL
        rw [z.1, z.2]
        simp
      rw [e2] at q
      exact q _ _ _ (Grow.refl e) (.tup h r)
    · unfold cutV cutL
      rw [r.length]
      exact ((r.drop _).take _).mono (Evl.Ex.new (fresh_back e hp))
/-! built-in functions -/
def uLen (K : PySem.W.Frag) : List V → Hp → VK → Prop := fun xs H Q => ∃ x n, xs = [x] ∧ LenV K x H n ∧ Q (.int n) H
theorem cu_len {X : Cx} (hK : X.K = K) : CallR X (.builtin "len") (uLen K) := by
  subst hK
  exact call_len
theorem cs_lenT {cs : List Nat} (hz : cs.length ≤ sizeLine) : CallS K (uLen K) [.txt cs] (.int cs.length) := fun xs G H e r Q q => by
  cases r with
  | cons h r =>
    cases r
    cases h
    exact ⟨_, cs.length, rfl, ⟨by rw [← strL, strL_len]; exact hz, by rw [← strL, strL_len]⟩, q _ _ _ (Grow.refl e) (.int _)⟩
theorem cs_lenL {cs : List Dat} : CallS K (uLen K) [.lst cs] (.int cs.length) := fun xs G H e r Q q => by
  cases r with
  | cons h r =>
    cases r
    cases h with
    | lst h r => exact ⟨_, cs.length, rfl, .inl ⟨_, .inl (.inl (e _ _ h)), r.length.symm⟩, q _ _ _ (Grow.refl e) (.int _)⟩
theorem cs_lenU {cs : List Dat} : CallS K (uLen K) [.tup cs] (.int cs.length) := fun xs G H e r Q q => by
  cases r with
  | cons h r =>
    cases r
    cases h with
    | tup h r => exact ⟨_, cs.length, rfl, .inr ⟨_, ex_t e h, r.length.symm⟩, q _ _ _ (Grow.refl e) (.int _)⟩
theorem cs_lenS {ns : List Int} : CallS K (uLen K) [.scr ns] (.int ns.length) := fun xs G H e r Q q => by
  cases r with
  | cons h r =>
    cases r
    cases h with
    | scr h => exact ⟨_, ns.length, rfl, .inl ⟨_, ex_l e h, (List.length_map _).symm⟩, q _ _ _ (Grow.refl e) (.int _)⟩
theorem cu_all {X : Cx} (hK : X.K = K) (hc : X.calm = true) : CallR X (.builtin "all") (rAll K) := by
  subst hK
  exact cr_all hc
theorem cs_all {bs : List Bool} : CallS K (rAll K) [.lst (bs.map .bl)] (.bl (bs.all id)) := fun xs G H e r Q q => by
  cases r with
  | cons h r =>
    cases r
    cases h with
    | lst h r =>
      have z := r.bls
      subst z
      exact ⟨_, bs, rfl, .inl (.inl (e _ _ h)), q _ _ _ (Grow.refl e) (.bl _)⟩
def uMax : List V → Hp → VK → Prop := fun xs H Q => ∃ i j, xs = [.int i, .int j] ∧ Q (.int (if j > i then j else i)) H
def uMin : List V → Hp → VK → Prop := fun xs H Q => ∃ i j, xs = [.int i, .int j] ∧ Q (.int (if j < i then j else i)) H
theorem cu_max {X : Cx} (hc : X.calm = true) : CallR X (.builtin "max") uMax := call_max2 hc
theorem cu_min {X : Cx} (hc : X.calm = true) : CallR X (.builtin "min") uMin := call_min2 hc
theorem cs_max {i j : Int} : CallS K uMax [.int i, .int j] (.int (max i j)) := fun xs G H e r Q q => by
  cases r with
  | cons h r =>
    cases r with
    | cons h2 r =>
      cases r; cases h; cases h2
      refine ⟨i, j, rfl, ?_⟩
      have z : (if j > i then j else i) = max i j := by omega
      rw [z]
      exact q _ _ _ (Grow.refl e) (.int _)
theorem cs_min {i j : Int} : CallS K uMin [.int i, .int j] (.int (min i j)) := fun xs G H e r Q q => by
  cases r with
  | cons h r =>
    cases r with
    | cons h2 r =>
      cases r; cases h; cases h2
      refine ⟨i, j, rfl, ?_⟩
      have z : (if j < i then j else i) = min i j := by omega
      rw [z]
      exact q _ _ _ (Grow.refl e) (.int _)
/-! isinstance with a built-in class -/
def tyD : Dat → Option String
  | .non => some "NoneType"
  | .bl _ => some "bool"
  | .int _ => some "int"
  | .txt _ => some "str"
  | .lst _ => some "list"
  | .tup _ => some "tuple"
  | .dct _ => some "dict"
  | _ => none
theorem cu_isi {X : Cx} (hK : X.K = K) : CallR X (.builtin "isinstance") (rIsi K) := by
  subst hK
  exact call_isi
theorem DR.ty' {H : Hp} {v : V} {d : Dat} {t : String} (r : DR K H v d) (h : tyD d = some t) : TyX K H v (.type t) := by
  cases r with
  | non => cases h; exact .base .non
  | bl b => cases h; exact .base (.bl b)
  | int i => cases h; exact .base (.int i)
  | txt cs => cases h; exact .base (.str _)
  | lst hl r => cases h; exact .base (.lst hl)
  | tup hl r =>
    cases h
    rcases hl with (hl | ⟨o, hl⟩) | hl
    · exact .base (.tup hl)
    · exact .fTuple hl
    · obtain ⟨o, its, n, hk, hc, _⟩ := hl
      exact .kTuple hk hc
  | ins hl r => cases h
  | dct hl r =>
    cases h
    rcases hl with hl | ⟨o, hl⟩
    · exact .base (.dK hl)
    · exact .fDict hl
  | scr hl => cases h
  | ty n => cases h
  | cls n => cases h
  | exc0 _ => cases h
  | exc1 _ _ _ => cases h
theorem cs_isi {d : Dat} {t n : String} {b : Bool} (h : tyD d = some t) (hk : kitB t n = some b) : CallS K (rIsi K) [d, .ty n] (.bl b) := fun xs G H e r Q q => by
  cases r with
  | cons h1 r =>
    cases r with
    | cons h2 r =>
      cases r; cases h2
      exact ⟨_, _, _, _, b, rfl, .ty n, (h1.mono e).ty' h, kit_ty hk, q _ _ _ (Grow.refl e) (.bl b)⟩
end
end DL

set_option Elab.async false
set_option linter.all false
set_option maxRecDepth 100000
namespace DL
open PySem PySem.Spec PyProof.Rows L2
open Evl (Ex ex_l ex_t fresh_back)

/-! ### what is walked -/
structure Walks (K : PySem.W.Frag) (J : It) (G : Hp) (ds : List Dat) : Prop where
  go : ∀ i G' H, Ex G G' → Ex G' H → i < ds.length → J.go i H
  yld : ∀ i G' H x H' d, Ex G G' → Ex G' H → ds[i]? = some d → J.yld i H x H' → ∃ G'', Grow G' H G'' H' ∧ DR K G'' x d
  stop : ∀ i G' H, Ex G G' → Ex G' H → ds.length ≤ i → J.stop i H
def SemI (K : PySem.W.Frag) (wi : TI) (ρ : List Sl) (ds : List Dat) : Prop :=
  ∀ G0 B0 σ G H, Sat K G0 B0 ρ σ G H → ∀ R : It → Hp → Prop, (∀ J G' H', Grow G H G' H' → Walks K J G' ds → R J H') → wi σ H R
/-- lists, tuples, texts alike -/
def iU (K : PySem.W.Frag) (te : TE) : TI := fun σ H R => te σ H fun x H1 => (∃ a, x = .ref a ∧ (∃ xs, SqL K H1 a xs) ∧ R (Itl K a) H1) ∨ (∃ a, x = .ref a ∧ (∃ xs, SqT K H1 a xs) ∧ R (Itt K a) H1) ∨ (∃ z, x = .str z ∧ R (Its z) H1)
theorem pi_u {X : Cx} {K : PySem.W.Frag} {tg l : Expr} {tl : TE} (hK : X.K = K) (hl : PE X l tl) : PI X tg l (iU K tl) := by
  subst hK
  refine ⟨fun pins s σ H R I h => ?_⟩
  refine thn (hl.run pins s σ H _ I h) fun v s1 ⟨x, H1, I1, r1, q1⟩ => ?_
  rcases q1 with ⟨a, rfl, ⟨xs, hq⟩, q⟩ | ⟨a, rfl, ⟨xs, hq⟩, q⟩ | ⟨z, rfl, q⟩
  · cases r1
    obtain ⟨its, rv, p, hz⟩ := I1.list hq
    exact wpAny_pyIter_list p.isList (pi_one (tk := s1.toks) I1 _ (turn_list a _) ⟨_, Heap.get?_push_size _ rfl, rfl, rfl⟩ q)
  · cases r1
    obtain ⟨its, rv, p, hz⟩ := I1.tuple hq
    exact wpAny_pyIter_tuple (show s1.heap.IsTuple a its.toArray from p) (pi_one (tk := s1.toks) I1 _ (turn_tuple a _) ⟨_, Heap.get?_push_size _ rfl, rfl, rfl⟩ q)
  · obtain ⟨t, rfl⟩ := r1
    cases ha : z.cps.all (· < 128)
    · exact wpAny_pyIter_wide ha (pi_one (tk := s1.toks) I1 _ (turn_str _ z t "str_iterator" (.inr rfl)) ⟨_, Heap.get?_push_size _ rfl, rfl, rfl⟩ q)
    · exact wpAny_pyIter_ascii ha (pi_one (tk := s1.toks) I1 _ (turn_str _ z t "str_ascii_iterator" (.inl rfl)) ⟨_, Heap.get?_push_size _ rfl, rfl, rfl⟩ q)

section
variable {K : PySem.W.Frag} {ρ : List Sl} {t ta tb tc te : TE} {a b c d : Dat}
theorem rd_inj {H : Hp} {p : Addr} {u w : HO} (nu : ∀ o x, u ≠ .frz o x) (nw : ∀ o x, w ≠ .frz o x) (h1 : H p = some u) (h2 : Rd H p w) : u = w := by
  rcases h2 with h2 | ⟨o, h2⟩
  · rw [h1] at h2; exact Option.some.inj h2
  · rw [h1] at h2; exact absurd (Option.some.inj h2) (nu _ _)
theorem walks_list {G : Hp} {p : Addr} {xs : List V} {ds : List Dat} (h : G p = some (.lst xs)) (r : DRs K G xs ds) : Walks K (Itl K p) G ds where
  go := fun i G' H e1 e2 hi => ⟨xs, xs[i]'(by rw [r.length]; exact hi), .inl (.inl (e2 _ _ (e1 _ _ h))), List.getElem?_eq_getElem _⟩
  yld := fun i G' H x H' d e1 e2 hd y => by
    obtain ⟨rfl, y⟩ := y
    obtain ⟨v, h1, h2⟩ := r.at hd
    have h3 := y xs (.inl (.inl (e2 _ _ (e1 _ _ h))))
    rw [h1] at h3
    cases h3
    exact ⟨G', Grow.refl e2, h2.mono e1⟩
  stop := fun i G' H e1 e2 hi => ⟨xs, .inl (.inl (e2 _ _ (e1 _ _ h))), by rw [r.length]; exact hi⟩
theorem walks_scr {G : Hp} {p : Addr} {ns : List Int} (h : SqL K G p (ns.map V.int)) : Walks K (Itl K p) G (ns.map .int) where
  go := fun i G' H e1 e2 hi => ⟨ns.map V.int, (ns.map V.int)[i]'(by rw [List.length_map] at hi ⊢; exact hi), ex_l e2 (ex_l e1 h), List.getElem?_eq_getElem _⟩
  yld := fun i G' H x H' d e1 e2 hd y => by
    obtain ⟨rfl, y⟩ := y
    have h3 := y _ (ex_l e2 (ex_l e1 h))
    rw [List.getElem?_map] at hd h3
    cases z : ns[i]? with
    | none => rw [z] at hd; cases hd
    | some n =>
      rw [z] at hd h3
      cases hd; cases h3
      exact ⟨G', Grow.refl e2, .int n⟩
  stop := fun i G' H e1 e2 hi => ⟨_, ex_l e2 (ex_l e1 h), by rw [List.length_map] at hi ⊢; exact hi⟩
theorem walks_tup {G : Hp} {p : Addr} {xs : List V} {ds : List Dat} (h : SqT K G p xs) (r : DRs K G xs ds) : Walks K (Itt K p) G ds where
  go := fun i G' H e1 e2 hi => ⟨xs, xs[i]'(by rw [r.length]; exact hi), ex_t e2 (ex_t e1 h), List.getElem?_eq_getElem _⟩
  yld := fun i G' H x H' d e1 e2 hd y => by
    obtain ⟨rfl, y⟩ := y
    obtain ⟨v, h1, h2⟩ := r.at hd
    have h3 := y xs (ex_t e2 (ex_t e1 h))
    rw [h1] at h3
    cases h3
    exact ⟨G', Grow.refl e2, h2.mono e1⟩
  stop := fun i G' H e1 e2 hi => ⟨xs, ex_t e2 (ex_t e1 h), by rw [r.length]; exact hi⟩
theorem walks_txt {G : Hp} (cs : List Nat) : Walks K (Its ⟨cs.toArray⟩) G (cs.map fun c => .txt [c]) where
  go := fun i G' H e1 e2 hi => by
    show i < cs.toArray.size
    rw [List.length_map] at hi
    simpa using hi
  yld := fun i G' H x H' d e1 e2 hd y => by
    obtain ⟨rfl, c, h1, rfl⟩ := y
    rw [List.getElem?_map] at hd
    have h2 : cs[i]? = some c := by simpa using h1
    rw [h2] at hd
    cases hd
    exact ⟨G', Grow.refl e2, .txt [c]⟩
  stop := fun i G' H e1 e2 hi => by
    show cs.toArray.size ≤ i
    rw [List.length_map] at hi
    simpa using hi
theorem walks_range {G : Hp} (lo : Int) (n : Nat) : Walks K (Itr lo n) G ((List.range n).map fun k => .int (lo + (k : Nat))) where
  go := fun i G' H e1 e2 hi => by
    rw [List.length_map, List.length_range] at hi
    exact hi
  yld := fun i G' H x H' d e1 e2 hd y => by
    obtain ⟨rfl, rfl⟩ := y
    have hi : i < n := by
      have := (List.getElem?_eq_some_iff.mp hd).1
      rwa [List.length_map, List.length_range] at this
    rw [List.getElem?_map, List.getElem?_range hi] at hd
    cases hd
    exact ⟨G', Grow.refl e2, .int _⟩
  stop := fun i G' H e1 e2 hi => by
    rw [List.length_map, List.length_range] at hi
    exact hi
def itemsD : Dat → Option (List Dat)
  | .lst ds => some ds
  | .tup ds => some ds
  | .txt cs => some (cs.map fun c => .txt [c])
  | .scr ns => some (ns.map .int)
  | _ => none
theorem si_u {ds : List Dat} (h : Sem K te ρ d) (hd : itemsD d = some ds) : SemI K (iU K te) ρ ds := fun G0 B0 σ G H S R q =>
  h _ _ _ _ _ S _ fun x G1 H1 g1 rx => by
    cases rx with
    | lst hl r => cases hd; exact .inl ⟨_, rfl, ⟨_, .inl (.inl (g1.s _ _ hl))⟩, q _ G1 H1 g1 (walks_list hl r)⟩
    | tup hl r => cases hd; exact .inr (.inl ⟨_, rfl, ⟨_, ex_t g1.s hl⟩, q _ G1 H1 g1 (walks_tup hl r)⟩)
    | txt cs => cases hd; exact .inr (.inr ⟨_, rfl, q _ G1 H1 g1 (walks_txt cs)⟩)
    | scr hl => cases hd; exact .inl ⟨_, rfl, ⟨_, ex_l g1.s hl⟩, q _ G1 H1 g1 (walks_scr hl)⟩
    | _ => cases hd
theorem si_range1 {ta : TA} {n : Nat} (h : SemA K ta ρ [.int n]) (hn : n ≤ 1000000000) : SemI K (iRng1 ta) ρ ((List.range n).map fun k => .int ((k : Nat) : Int)) := fun G0 B0 σ G H S R q =>
  h _ _ _ _ _ S _ fun xs G1 H1 g1 rs => by
    cases rs with
    | cons h1 rs =>
      cases rs; cases h1
      refine ⟨(n : Int), rfl, by omega, by omega, ?_⟩
      rw [Int.toNat_natCast]
      have w := walks_range (K := K) (G := G1) 0 n
      simp only [Int.zero_add] at w
      exact q _ G1 H1 g1 w
theorem si_range2 {ta : TA} {lo hi : Int} {n : Nat} (h : SemA K ta ρ [.int lo, .int hi]) (e : (hi - lo).toNat = n) (h1 : -1000000000 ≤ lo) (h2 : lo ≤ 1000000000) (h3 : -1000000000 ≤ hi) (h4 : hi ≤ 1000000000) : SemI K (iRng2 ta) ρ ((List.range n).map fun k => .int (lo + (k : Nat))) := fun G0 B0 σ G H S R q =>
  h _ _ _ _ _ S _ fun xs G1 H1 g1 rs => by
    cases rs with
    | cons k1 rs =>
      cases rs with
      | cons k2 rs =>
        cases rs; cases k1; cases k2
        refine ⟨lo, hi, rfl, ⟨by omega, by omega, by omega, by omega⟩, ?_⟩
        rw [e]
        exact q _ G1 H1 g1 (walks_range lo n)

/-! ### targets -/
def SemG (K : PySem.W.Frag) (g : TG) (d : Dat) (ρ ρ' : List Sl) : Prop :=
  ∀ G0 B0 σ G H v, Sat K G0 B0 ρ σ G H → DR K G v d → ∀ Q : L2.St → Hp → Prop, (∀ σ', Sat K G0 B0 ρ' σ' G H → Q σ' H) → g v σ H Q
def SemGs (K : PySem.W.Frag) (g : TGs) (ds : List Dat) (ρ ρ' : List Sl) : Prop :=
  ∀ G0 B0 σ G H vs, Sat K G0 B0 ρ σ G H → DRs K G vs ds → ∀ Q : L2.St → Hp → Prop, (∀ σ', Sat K G0 B0 ρ' σ' G H → Q σ' H) → g vs σ H Q
theorem sg_name {i : Nat} : SemG K (gName i) d ρ (ρ.set i (.dat d)) := fun G0 B0 σ G H v S r Q q => q _ (S.set r)
theorem sgs_nil : SemGs K gNil [] ρ ρ := fun G0 B0 σ G H v S r Q q => by cases r; exact ⟨rfl, q _ S⟩
theorem sgs_cons {g : TG} {gs : TGs} {ds : List Dat} {ρ1 ρ2 : List Sl} (h1 : SemG K g d ρ ρ1) (h2 : SemGs K gs ds ρ1 ρ2) : SemGs K (gCons g gs) (d :: ds) ρ ρ2 := fun G0 B0 σ G H v S r Q q => by
  cases r with
  | cons r1 r2 => exact ⟨_, _, rfl, h1 _ _ _ _ _ _ S r1 _ fun σ1 S1 => h2 _ _ _ _ _ _ S1 r2 _ q⟩
theorem sg_tup {gs : TGs} {ds : List Dat} {n : Nat} {ρ2 : List Sl} (h : SemGs K gs ds ρ ρ2) (hn : ds.length = n) : SemG K (gTup K n gs) (.tup ds) ρ ρ2 := fun G0 B0 σ G H v S r Q q => by
  cases r with
  | tup hl r => exact ⟨_, _, rfl, ex_t S.gr.s hl, by rw [r.length]; exact hn, h _ _ _ _ _ _ S r _ q⟩

/-! ### comprehensions -/
theorem Sat.forget1 {G0 B0 G H : Hp} {σ : L2.St} {i : Nat} (S : Sat K G0 B0 ρ σ G H) : Sat K G0 B0 (ρ.set i .no) (σ.set i none) G H := S.forget
theorem wipe_set (σ : L2.St) (j : Nat) (x : V) : wipe ((wipe σ [j]).set j (some x)) [j] = wipe σ [j] := by
  show (((σ.set j none).set j (some x)).set j none) = σ.set j none
  rw [List.set_set, List.set_set]
theorem sn_lc {wi : TI} {tt : TT} {j : Nat} {ds : List Dat} (f : Dat → Bool) (g : Dat → Dat) (hi : SemI K wi ρ ds) (hz : ds.length ≤ sizeLine)
    (ht : ∀ d, d ∈ ds → SemT K tt (ρ.set j (.dat d)) (f d)) (he : ∀ d, d ∈ ds → f d = true → Sem K te (ρ.set j (.dat d)) (g d)) :
    SemN K (tLc wi (gName j) tt te [j]) ρ ((ds.filter f).map g) := fun G0 B0 σ G H S Q q =>
  hi _ _ _ _ _ S _ fun J G1 H1 g1 W D hD => by
    have S1 := S.grow g1
    refine ⟨fun i m H' => m = ds.length - i ∧ i ≤ ds.length ∧ ∃ G' acc, Grow G1 H1 G' H' ∧ G' D = none ∧ H' D = some (.lst acc) ∧ DRs K G' acc (((ds.take i).filter f).map g), ⟨ds.length, by omega, Nat.zero_le _, G1, [], Grow.newM g1.s hD, fresh_back g1.s hD, upd_same, .nil⟩, ?_⟩
    rintro i m H' ⟨rfl, hi', G', acc, g2, n2, h2, r2⟩
    have hacc : acc.length ≤ i := by
      rw [r2.length, List.length_map]
      refine Nat.le_trans (List.length_filter_le _ _) ?_
      rw [List.length_take]; omega
    by_cases hlt : i < ds.length
    · have hd : ds[i]? = some ds[i] := List.getElem?_eq_getElem hlt
      have hmem : ds[i] ∈ ds := List.getElem_mem hlt
      refine .inr ⟨W.go i G' H' g2.g g2.s hlt, fun H'' => i + 1 ≤ ds.length ∧ ∃ G' acc, Grow G1 H1 G' H'' ∧ G' D = none ∧ H'' D = some (.lst acc) ∧ DRs K G' acc (((ds.take (i + 1)).filter f).map g), fun H'' p => ⟨ds.length - (i + 1), by omega, rfl, p⟩, fun x H'' hy => ?_⟩
      obtain ⟨G3, g3, rx⟩ := W.yld i G' H' x H'' ds[i] g2.g g2.s hd hy
      have S3 : Sat K G0 B0 (ρ.set j (.dat ds[i])) ((wipe σ [j]).set j (some x)) G3 H'' := by
        have z := (((S1.grow g2).grow g3).forget1 (i := j)).set (i := j) rx
        rw [List.set_set] at z
        exact z
      refine ⟨wipe_set σ j x, ht _ hmem _ _ _ _ _ S3 _ fun G4 H4 g4 => ?_⟩
      have n4 : G4 D = none := (g3.trans g4).m D n2 (by rw [h2]; simp)
      have h4 : H4 D = some (.lst acc) := (g3.trans g4).h _ _ h2
      have et : ds.take (i + 1) = ds.take i ++ [ds[i]] := by rw [List.take_add_one, hd]; rfl
      cases hf : f ds[i] with
      | false =>
        rw [if_neg (by simp)]
        refine ⟨hlt, G4, acc, (g2.trans g3).trans g4, n4, h4, ?_⟩
        rw [et, List.filter_append, List.filter_cons, hf]
        simp only [Bool.false_eq_true, if_false, List.filter_nil, List.append_nil]
        exact r2.mono (g3.trans g4).g
      | true =>
        rw [if_pos rfl]
        refine he _ hmem hf _ _ _ _ _ (S3.grow g4) _ fun y G5 H5 g5 ry => ?_
        have n5 : G5 D = none := g5.m D n4 (by rw [h4]; simp)
        have h5 : H5 D = some (.lst acc) := g5.h _ _ h4
        have gg := ((g2.trans g3).trans g4).trans g5
        refine ⟨acc, h5, by omega, hlt, G5, acc ++ [y], ⟨gg.g, gg.s.mut n5, gg.h.mut hD, gg.m⟩, n5, upd_same, ?_⟩
        rw [et, List.filter_append, List.filter_cons, hf]
        simp only [if_true, List.filter_nil, List.map_append, List.map_cons, List.map_nil]
        exact (r2.mono ((g3.trans g4).trans g5).g).append (.cons ry .nil)
    · have ei : i = ds.length := by omega
      subst ei
      rw [List.take_length] at r2
      exact .inl ⟨W.stop _ G' H' g2.g g2.s (Nat.le_refl _), q D acc G' H' (g1.trans g2) (fresh_back g1.h hD) n2 h2 r2⟩
theorem st_yes : SemT K tYes ρ true := fun G0 B0 σ G H S Q q => q G H (Grow.refl S.gr.s)
/-- without a test -/
theorem sn_lcA {wi : TI} {j : Nat} {ds : List Dat} (g : Dat → Dat) (hi : SemI K wi ρ ds) (hz : ds.length ≤ sizeLine) (he : ∀ d, d ∈ ds → Sem K te (ρ.set j (.dat d)) (g d)) :
    SemN K (tLc wi (gName j) tYes te [j]) ρ (ds.map g) := by
  have h := sn_lc (K := K) (ρ := ρ) (te := te) (tt := tYes) (j := j) (fun _ => true) g hi hz (fun _ _ => st_yes) (fun d hd _ => he d hd)
  rw [List.filter_eq_self.mpr (fun _ _ => rfl)] at h
  exact h

/-! ### statements -/
structure Post where
  nx : List Sl → Prop
  rt : Dat → Prop := fun _ => False
  rn : OD → Prop := fun _ => False
  rm : Dat → List Sl → Prop := fun _ _ => False
  bk : List Sl → Prop := fun _ => False
  ct : List Sl → Prop := fun _ => False
  ex : Addr → List (Str × Dat) → List Sl → Prop := fun _ _ _ => False
/-- what is told of an exception in the air -/
inductive DX (K : PySem.W.Frag) (G : Hp) : Option Addr → List (Str × Dat) → Prop
  | no : DX K G none []
  | fs {d : Addr} {vs : List (Str × V)} {fs : List (Str × Dat)} : G d = some (.xd vs) → DRf K G vs fs → DX K G (some d) fs
theorem DX.mono {K : PySem.W.Frag} {G G' : Hp} {o : Option Addr} {fs : List (Str × Dat)} (e : Ex G G') (h : DX K G o fs) : DX K G' o fs := by
  cases h with
  | no => exact .no
  | fs h r => exact .fs (e _ _ h) (r.mono e)
def SemS (K : PySem.W.Frag) (W : WX) (t : TS) (ρ : List Sl) (P : Post) : Prop :=
  ∀ G0 B0 σ G H (D : Ends), Sat K G0 B0 ρ σ G H → (∀ ρ' σ' G' H', P.nx ρ' → Sat K G0 B0 ρ' σ' G' H' → D.nx σ' H') → ((∀ d v G' H', P.rt d → Grow G0 B0 G' H' → DR K G' v d → D.rt v H') ∧ (∀ o v T G' H', P.rn o → Grow G0 B0 G' H' → OR K G' H' v o T → (∀ a ∈ T, B0 a = none ∧ G' a = none) → D.rt v H') ∧ (∀ d v ρ' σ' G' H', P.rm d ρ' → Sat K G0 B0 ρ' σ' G' H' → DR K G' v d → D.rt v H')) →
    (∀ ρ' σ' G' H', P.bk ρ' → Sat K G0 B0 ρ' σ' G' H' → D.bk σ' H') → (∀ ρ' σ' G' H', P.ct ρ' → Sat K G0 B0 ρ' σ' G' H' → D.ct σ' H') →
    (∀ C fs dd ρ' σ' G' H', P.ex C fs ρ' → Sat K G0 B0 ρ' σ' G' H' → DX K G' dd fs → W (.ref C) dd σ' H') → t D σ H
variable {P : Post} {u w : TS} {W : WX}
theorem ss_seq (h : SemS K W u ρ { P with nx := fun ρ' => SemS K W w ρ' P }) : SemS K W (tSeq u w) ρ P := fun G0 B0 σ G H D S n r b c x =>
  h G0 B0 σ G H { D with nx := w D } S (fun ρ' σ' G' H' p S' => p _ _ _ _ _ D S' n r b c x) r b c x
theorem ss_next (h : P.nx ρ) : SemS K W tNext ρ P := fun G0 B0 σ G H D S n r b c x => n _ _ _ _ h S
theorem ss_brk (h : P.bk ρ) : SemS K W tBreak ρ P := fun G0 B0 σ G H D S n r b c x => b _ _ _ _ h S
theorem ss_cont (h : P.ct ρ) : SemS K W tCont ρ P := fun G0 B0 σ G H D S n r b c x => c _ _ _ _ h S
theorem ss_asgG {g : TG} {ρ' : List Sl} (h : Sem K te ρ d) (hg : SemG K g d ρ ρ') (p : P.nx ρ') : SemS K W (tAsg te g) ρ P := fun G0 B0 σ G H D S n r b c x =>
  h _ _ _ _ _ S _ fun v G1 H1 g1 rv => hg _ _ _ _ _ _ (S.grow g1) rv _ fun σ' S' => n _ _ _ _ p S'
theorem ss_asg {i : Nat} (h : Sem K te ρ d) (p : P.nx (ρ.set i (.dat d))) : SemS K W (tAsg te (gName i)) ρ P := ss_asgG h sg_name p
/-- a new thing that nobody else knows -/
def SemM (K : PySem.W.Frag) (t : TE) (ρ : List Sl) (o : OD) : Prop :=
  ∀ G0 B0 σ G H, Sat K G0 B0 ρ σ G H → ∀ Q : VK, (∀ v T G' H', Grow G H G' H' → OR K G' H' v o T → (∀ a ∈ T, H a = none ∧ G' a = none) → Q v H') → t σ H Q
theorem sm_ofN {ds : List Dat} (h : SemN K te ρ ds) : SemM K te ρ (.pl ds) := fun G0 B0 σ G H S Q q =>
  h _ _ _ _ _ S _ fun p vs G1 H1 g1 hp hg h1 rs => q _ [p] G1 H1 g1 (.pl h1 rs) fun a ha => by
    rcases List.mem_cons.mp ha with z | z
    · rw [z]; exact ⟨hp, hg⟩
    · cases z
theorem sm_dat (h : Sem K te ρ d) : SemM K te ρ (.dat d) := fun G0 B0 σ G H S Q q => h _ _ _ _ _ S _ fun v G1 H1 g1 rv => q v [] G1 H1 g1 (.dat rv) fun a ha => by cases ha
/-- a new thing, told as a datum -/
theorem s_ofM {o : OD} (h : SemM K te ρ o) : Sem K te ρ (frz o) := fun G0 B0 σ G H S Q q =>
  h _ _ _ _ _ S _ fun v T G1 H1 g1 r hT => by
    have eg : Ex G1 (fun a => if a ∈ T then H1 a else G1 a) := fun a u hu => by
      show (if a ∈ T then H1 a else G1 a) = some u
      rw [if_neg (fun z => by rw [(hT a z).2] at hu; cases hu)]
      exact hu
    refine q v (fun a => if a ∈ T then H1 a else G1 a) H1 ⟨g1.g.trans eg, fun a u hu => ?_, g1.h, fun a k1 k2 => ?_⟩ (r.frz eg fun a ha u hu => ?_)
    · have hu : (if a ∈ T then H1 a else G1 a) = some u := hu
      by_cases z : a ∈ T
      · rw [if_pos z] at hu; exact hu
      · rw [if_neg z] at hu; exact g1.s a u hu
    · show (if a ∈ T then H1 a else G1 a) = none
      rw [if_neg (fun z => k2 (hT a z).1)]
      exact g1.m a k1 k2
    · show (if a ∈ T then H1 a else G1 a) = some u
      rw [if_pos ha]; exact hu
/-- x = a new thing, which stays one's own -/
theorem ss_asgM {i : Nat} {o : OD} (h : SemM K te ρ o) (p : P.nx (ρ.set i (.mt o))) : SemS K W (tAsg te (gName i)) ρ P := fun G0 B0 σ G H D S n r b c x =>
  h _ _ _ _ _ S _ fun v T G1 H1 g1 rs hT => n _ _ _ _ p (S.newMut g1 rs hT)
theorem ss_asgN {i : Nat} {ds : List Dat} (h : SemN K te ρ ds) (p : P.nx (ρ.set i (.own ds))) : SemS K W (tAsg te (gName i)) ρ P := ss_asgM (sm_ofN h) p
theorem ss_ret (h : Sem K te ρ d) (p : P.rt d) : SemS K W (tRet te) ρ P := fun G0 B0 σ G H D S n r b c x =>
  h _ _ _ _ _ S _ fun v G1 H1 g1 rv => r.1 _ _ _ _ p (S.gr.trans g1) rv
/-- what is returned is a new thing, or one's own: the caller may change it -/
theorem ss_retNewM {o : OD} (h : SemM K te ρ o) (p : P.rn o) : SemS K W (tRet te) ρ P := fun G0 B0 σ G H D S n r b c x =>
  h _ _ _ _ _ S _ fun v T G1 H1 g1 rs hT => r.2.1 _ _ _ _ _ p (S.gr.trans g1) rs fun a ha => ⟨fresh_back S.gr.h (hT a ha).1, (hT a ha).2⟩
theorem ss_retNew {ds : List Dat} (h : SemN K te ρ ds) (p : P.rn (.pl ds)) : SemS K W (tRet te) ρ P := ss_retNewM (sm_ofN h) p
theorem ss_retOwn {i : Nat} {o : OD} (hi : ρ[i]? = some (.mt o)) (p : P.rn o) : SemS K W (tRet (tVar i)) ρ P := fun G0 B0 σ G H D S n r b c x => by
  obtain ⟨v, T, k1, k2, k3, _⟩ := S.at hi
  exact ⟨_, k1, r.2.1 _ _ _ _ _ p S.gr k2 fun a ha => ⟨(k3 a ha).2, (k3 a ha).1⟩⟩
/-- what is returned, and what is owned then -/
theorem ss_retM (h : Sem K te ρ d) (p : P.rm d ρ) : SemS K W (tRet te) ρ P := fun G0 B0 σ G H D S n r b c x =>
  h _ _ _ _ _ S _ fun v G1 H1 g1 rv => r.2.2 _ _ _ _ _ _ p (S.grow g1) rv
theorem ss_retNM (p : P.rm .non ρ) : SemS K W tRetN ρ P := fun G0 B0 σ G H D S n r b c x => r.2.2 _ _ _ _ _ _ p S .non
theorem ss_retN (p : P.rt .non) : SemS K W tRetN ρ P := fun G0 B0 σ G H D S n r b c x => r.1 _ _ _ _ p S.gr .non
theorem ss_drop (h : Sem K te ρ d) (p : P.nx ρ) : SemS K W (tDrop te) ρ P := fun G0 B0 σ G H D S n r b c x =>
  h _ _ _ _ _ S _ fun v G1 H1 g1 rv => n _ _ _ _ p (S.grow g1)
theorem ss_if {c : TT} {k : Bool} (h : SemT K c ρ k) (h1 : k = true → SemS K W u ρ P) (h2 : k = false → SemS K W w ρ P) : SemS K W (tIfS c u w) ρ P := fun G0 B0 σ G H D S n r b ct x =>
  h _ _ _ _ _ S _ fun G1 H1 g1 => by
    cases k with
    | true => rw [if_pos rfl]; exact h1 rfl _ _ _ _ _ _ (S.grow g1) n r b ct x
    | false => rw [if_neg (by simp)]; exact h2 rfl _ _ _ _ _ _ (S.grow g1) n r b ct x
/-- one's own list is told to others -/
theorem ss_freeze (i : Nat) {ds : List Dat} (hi : ρ[i]? = some (.own ds)) (h : SemS K W u (ρ.set i (.dat (.lst ds))) P) : SemS K W u ρ P := fun G0 B0 σ G H D S n r b c x => by
  obtain ⟨G', S1⟩ := S.freeze hi
  exact h _ _ _ _ _ _ S1 n r b c x
theorem ss_freezeM (i : Nat) {o : OD} (hi : ρ[i]? = some (.mt o)) (h : SemS K W u (ρ.set i (.dat (frz o))) P) : SemS K W u ρ P := fun G0 B0 σ G H D S n r b c x => by
  obtain ⟨G', S1, _⟩ := S.freezeM hi
  exact h _ _ _ _ _ _ S1 n r b c x
/-- xs.append(e) -/
theorem ss_app {i : Nat} {ds : List Dat} (hi : ρ[i]? = some (.own ds)) (h : Sem K te ρ d) (hz : ds.length < sizeLine) (p : P.nx (ρ.set i (.own (ds ++ [d])))) : SemS K W (tDrop (tBM K "list" rAppend (tVar i) (tCons te tNil))) ρ P := fun G0 B0 σ G H D S n r b c x => by
  obtain ⟨p0, vs0, k1, _, _, k4, _⟩ := S.own i ds hi
  refine ⟨.ref p0, k1, .inl ⟨rfl, _, .inl (.inl k4)⟩, h _ _ _ _ _ S _ fun v G1 H1 g1 rv => ?_⟩
  have S1 := S.grow g1
  obtain ⟨p1, vs, l1, l2, l3, l4, l5⟩ := S1.own i ds hi
  have : p0 = p1 := by rw [k1] at l1; simpa using l1
  subst this
  exact ⟨p0, vs, v, rfl, rfl, l4, by rw [l5.length]; exact hz, n _ _ _ _ p (S1.write hi l1 (l5.append (.cons rv .nil)))⟩
/-- n += e -/
theorem ss_augI {i : Nat} {a b : Int} {f : Int → Int → Int} (hi : ρ[i]? = some (.dat (.int a))) (h : Sem K te ρ (.int b)) (p : P.nx (ρ.set i (.dat (.int (f a b))))) : SemS K W (tAug i te (ipI f)) ρ P := fun G0 B0 σ G H D S n r bk c x => by
  obtain ⟨v, k1, k2⟩ := S.dat i _ hi
  refine ⟨v, k1, h _ _ _ _ _ S _ fun y G1 H1 g1 ry => ?_⟩
  cases k2; cases ry
  exact ⟨a, b, rfl, rfl, n _ _ _ _ p ((S.grow g1).set (.int _))⟩
theorem ss_for {wi : TI} {g : TG} {ds : List Dat} (hi : SemI K wi ρ ds) (I : Nat → List Sl → Prop) (h0 : I 0 ρ)
    (hs : ∀ i d ρ1, ds[i]? = some d → I i ρ1 → ∃ ρ2, SemG K g d ρ1 ρ2 ∧ SemS K W u ρ2 { P with nx := I (i + 1), ct := I (i + 1), bk := P.nx }) (hd : ∀ ρ1, I ds.length ρ1 → P.nx ρ1) : SemS K W (tFor wi g u) ρ P := fun G0 B0 σ G H D S n r b c xc =>
  hi _ _ _ _ _ S _ fun J G1 H1 g1 Wk => by
    refine ⟨fun i m σ' H' => m = ds.length - i ∧ i ≤ ds.length ∧ ∃ ρ1 G', Ex G1 G' ∧ I i ρ1 ∧ Sat K G0 B0 ρ1 σ' G' H', ⟨ds.length, by omega, Nat.zero_le _, ρ, G1, Evl.Ex.refl _, h0, S.grow g1⟩, ?_⟩
    rintro i m σ' H' ⟨rfl, hi', ρ1, G', e1, hI, S'⟩
    by_cases hlt : i < ds.length
    · have hd' : ds[i]? = some ds[i] := List.getElem?_eq_getElem hlt
      obtain ⟨ρ2, hg, hb⟩ := hs i ds[i] ρ1 hd' hI
      refine .inr ⟨Wk.go i G' H' e1 S'.gr.s hlt, fun σ2 H2 => i + 1 ≤ ds.length ∧ ∃ ρ1 G', Ex G1 G' ∧ I (i + 1) ρ1 ∧ Sat K G0 B0 ρ1 σ2 G' H2, fun σ2 H2 p => ⟨ds.length - (i + 1), by omega, rfl, p⟩, fun x H2 hy => ?_⟩
      obtain ⟨G3, g3, rx⟩ := Wk.yld i G' H' x H2 ds[i] e1 S'.gr.s hd' hy
      refine hg _ _ _ _ _ _ (S'.grow g3) rx _ fun σ3 S3 => ?_
      -- the frozen part at the loop's start stays frozen: G0 := the same with G1's objects
      have S4 : Sat K G3 B0 ρ2 σ3 G3 H2 := ⟨⟨Evl.Ex.refl _, S3.gr.s, S3.gr.h, fun a h _ => h⟩, S3.len, S3.dat, S3.fp⟩
      have back : ∀ {ρ' σ' G' H'}, Sat K G3 B0 ρ' σ' G' H' → Sat K G0 B0 ρ' σ' G' H' := fun {ρ' σ' G' H'} S5 =>
        ⟨⟨S3.gr.g.trans S5.gr.g, S5.gr.s, S5.gr.h, fun a h1 h2 => S5.gr.m a (S3.gr.m a h1 h2) h2⟩, S5.len, S5.dat, S5.fp⟩
      refine hb _ _ _ _ _ _ S4 (fun ρ' σ' G' H' p S5 => ⟨hlt, ρ', G', (e1.trans g3.g).trans S5.gr.g, p, back S5⟩) ⟨fun d v G' H' p g5 rv => r.1 d v G' H' p ⟨S3.gr.g.trans g5.g, g5.s, g5.h, fun a h1 h2 => g5.m a (S3.gr.m a h1 h2) h2⟩ rv, fun o v T G' H' p1 g5 k1 k2 => r.2.1 o v T G' H' p1 ⟨S3.gr.g.trans g5.g, g5.s, g5.h, fun a h1 h2 => g5.m a (S3.gr.m a h1 h2) h2⟩ k1 k2, fun d v ρ' σ' G' H' p1 S5 rv => r.2.2 d v ρ' σ' G' H' p1 (back S5) rv⟩
        (fun ρ' σ' G' H' p S5 => n ρ' σ' G' H' p (back S5)) (fun ρ' σ' G' H' p S5 => ⟨hlt, ρ', G', (e1.trans g3.g).trans S5.gr.g, p, back S5⟩)
        (fun C fs dd ρ' σ' G' H' p S5 hx => xc C fs dd ρ' σ' G' H' p (back S5) hx)
    · have ei : i = ds.length := by omega
      subst ei
      exact .inl ⟨Wk.stop _ G' H' e1 S'.gr.s (Nat.le_refl _), n _ _ _ _ (hd _ hI) S'⟩
theorem ss_while {c : TT} (I : Nat → List Sl → Prop) (m0 : Nat) (h0 : I m0 ρ)
    (hs : ∀ m ρ1, I m ρ1 → ∃ k, SemT K c ρ1 k ∧ (k = true → SemS K W u ρ1 { P with nx := fun ρ2 => ∃ m', m' < m ∧ I m' ρ2, ct := fun ρ2 => ∃ m', m' < m ∧ I m' ρ2, bk := P.nx }) ∧ (k = false → P.nx ρ1)) : SemS K W (tWhile c u) ρ P := fun G0 B0 σ G H D S n r b ct x => by
  refine ⟨fun m σ' H' => ∃ ρ1 G', I m ρ1 ∧ Sat K G0 B0 ρ1 σ' G' H', ⟨m0, ρ, G, h0, S⟩, ?_⟩
  rintro m σ' H' ⟨ρ1, G', hI, S'⟩
  obtain ⟨k, hc, h1, h2⟩ := hs m ρ1 hI
  refine hc _ _ _ _ _ S' _ fun G1 H1 g1 => ?_
  cases k with
  | true =>
    rw [if_pos rfl]
    refine ⟨fun σ2 H2 => ∃ ρ2 G2, (∃ m', m' < m ∧ I m' ρ2) ∧ Sat K G0 B0 ρ2 σ2 G2 H2, ?_, ?_⟩
    · rintro σ2 H2 ⟨ρ2, G2, ⟨m', hm, hI'⟩, S2⟩
      exact ⟨m', hm, ρ2, G2, hI', S2⟩
    · exact h1 rfl _ _ _ _ _ _ (S'.grow g1) (fun ρ' σ' G' H' p S5 => ⟨ρ', G', p, S5⟩) r (fun ρ' σ' G' H' p S5 => n ρ' σ' G' H' p S5) (fun ρ' σ' G' H' p S5 => ⟨ρ', G', p, S5⟩) x
  | false => rw [if_neg (by simp)]; exact n _ _ _ _ (h2 rfl) (S'.grow g1)
/-- what is reached is weakened -/
theorem ss_mono {P' : Post} (h : SemS K W u ρ P') (h1 : ∀ ρ', P'.nx ρ' → P.nx ρ') (h2 : ∀ d, P'.rt d → P.rt d) (h3 : ∀ ρ', P'.bk ρ' → P.bk ρ') (h4 : ∀ ρ', P'.ct ρ' → P.ct ρ') (h5 : ∀ C fs ρ', P'.ex C fs ρ' → P.ex C fs ρ') (h6 : ∀ o, P'.rn o → P.rn o := by exact fun _ h => h) (h7 : ∀ d ρ', P'.rm d ρ' → P.rm d ρ' := by exact fun _ _ h => h) : SemS K W u ρ P := fun G0 B0 σ G H D S n r b c x =>
  h _ _ _ _ _ _ S (fun ρ' σ' G' H' p => n _ _ _ _ (h1 _ p)) ⟨fun d v G' H' p => r.1 _ _ _ _ (h2 _ p), fun o v T G' H' p1 => r.2.1 _ _ _ _ _ (h6 _ p1), fun d v ρ' σ' G' H' p1 => r.2.2 _ _ _ _ _ _ (h7 _ _ p1)⟩ (fun ρ' σ' G' H' p => b _ _ _ _ (h3 _ p)) (fun ρ' σ' G' H' p => c _ _ _ _ (h4 _ p)) (fun C fs dd ρ' σ' G' H' p => x _ _ _ _ _ _ _ (h5 _ _ _ p))
end

/-! ### defs -/
/-- the slots at a def's start -/
def slots (n : Nat) (ds : List Dat) : List Sl := ds.map .dat ++ List.replicate (n - ds.length) .no
theorem sat_start {K : PySem.W.Frag} {N : List Str} {vs : List V} {ds : List Dat} {G H : Hp} (e : Ex G H) (r : DRs K G vs ds) : Sat K G H (slots N.length ds) (L2.start N vs) G H := by
  have hl := r.length
  refine ⟨Grow.refl e, ?_, fun i d h => ?_, fun _ => [], fun i d h => ?_, fun i j o o' n h1 h2 a ha => by cases ha⟩
  · unfold slots L2.start
    simp [hl]
  · unfold slots at h
    unfold L2.start
    by_cases hi : i < ds.length
    · rw [List.getElem?_append_left (by simpa using hi), List.getElem?_map] at h
      cases z : ds[i]? with
      | none => rw [z] at h; cases h
      | some d' =>
        rw [z] at h
        cases h
        obtain ⟨v, h1, h2⟩ := r.at z
        refine ⟨v, ?_, h2⟩
        rw [List.getElem?_append_left (by simpa [hl] using hi), List.getElem?_map, h1]
        rfl
    · rw [List.getElem?_append_right (by simpa using hi)] at h
      rw [List.getElem?_replicate] at h
      split at h <;> cases h
  · unfold slots at h
    by_cases hi : i < ds.length
    · rw [List.getElem?_append_left (by simpa using hi), List.getElem?_map] at h
      cases z : ds[i]? with
      | none => rw [z] at h; cases h
      | some d' => rw [z] at h; cases h
    · rw [List.getElem?_append_right (by simpa using hi)] at h
      rw [List.getElem?_replicate] at h
      split at h <;> cases h
/-- a def of the module that keeps a promise -/
structure GD (P : Program) (w : World) (K : PySem.W.Frag) (mg : Str → Option Value) (base : Heap) (k : Nat) (x : Str) (ps : List Str) (sp : Sp) : Prop where
  ex : ∃ f fd, FnOk P w K mg base CX0 k f fd ps sp ∧ mg x = some (.ref f) ∧ PySem.W.keepIn K (.ref f) = true ∧ Binds K fd ps []
section
variable {X : Cx} {x : Str} {p pos : Pos} {e : Expr} {es : List Expr} {t : TA} {k : Nat} {ps : List Str} {sp : Sp}
theorem pe_gd (h : GD X.prog X.w X.K X.mg X.base k x ps sp) (hr : Room k X.A) (hg : Gl X x) (ha : PA X (e :: es) t) (hdb : (x == ("__debug__" : Str)) = false := by decide)
    (he : starEach (e :: es) X.env = (false, eval e X.env) :: starEach es X.env := by rfl) (hpl : (backTo pos (starEach es X.env)).any (·.1) = false := by rfl) : PE X (.Call (.Name x p) (e :: es) [] pos) (tCall sp [] E0 t) := by
  obtain ⟨f, fd, F, hm, hk, hb⟩ := h.ex
  exact pe_call F hr hg hm hk hb .nil pass0 ha hdb he hpl
theorem pe_gd0 (h : GD X.prog X.w X.K X.mg X.base k x ps sp) (hr : Room k X.A) (hg : Gl X x) (hdb : (x == ("__debug__" : Str)) = false := by decide) : PE X (.Call (.Name x p) [] [] pos) (tCall sp [] E0 tNil) := by
  obtain ⟨f, fd, F, hm, hk, hb⟩ := h.ex
  exact pe_call0 F hr hg hm hk hb .nil pass0 hdb
end
section
variable {P : Program} {w : World} {K : PySem.W.Frag} {mg : Str → Option Value} {base : Heap}
theorem GD.mono {j k : Nat} {x : Str} {ps : List Str} {sp : Sp} (h : GD P w K mg base j x ps sp) (hj : j ≤ k) : GD P w K mg base k x ps sp := by
  obtain ⟨f, fd, F, r⟩ := h.ex
  exact ⟨f, fd, F.mono hj, r⟩
/-- THE RULE for a def told by data: its reading T, that the body has it, what it yields -/
theorem fn_d {x qual : Str} {st : Stmt} {f : Addr} {fd : FuncData} {N ps : List Str} {k : Nat} {R : List Dat → Dat → Prop} {T : TS} (F : Fun K x qual st f fd) (S : FnScope N ps (defScope st))
    (hlen : ∀ ds d, R ds d → ds.length = ps.length)
    (hp : ∀ (cdv : Value) (A : Around) (outer : List Env) (s : Shared) (H : Hp) (E : XK), Room k (A.deeper (envOfC qual (defScope st) s.heap.objs.size f cdv)) → PSs (cxOf CX0 P w K mg base N qual (defScope st) f cdv A outer s H E).nox (defBody st) T)
    (hs : ∀ ds d, R ds d → SemS K (fun _ _ _ _ => False) T (slots N.length ds) { nx := fun _ => d = .non, rt := fun d' => d' = d }) : FnOk P w K mg base CX0 (k + 1) f fd ps (spD K R) := by
  refine F.ok S (fun vs H Q E h => ?_) (fun cdv A outer s H vs Q E hr h => ?_)
  · obtain ⟨G, ds, d, e, r, hR, q⟩ := h
    rw [r.length]
    exact hlen ds d hR
  · obtain ⟨G, ds, d, e, r, hR, q⟩ := h
    refine ⟨T, hp cdv A outer s H E hr, hs ds d hR G H _ G H _ (sat_start e r) (fun ρ' σ' G' H' h S' => ?_) ⟨fun d' v G' H' h g rv => ?_, fun _ _ _ _ _ h _ _ _ => h.elim, fun _ _ _ _ _ _ h _ _ => h.elim⟩ (fun _ _ _ _ h _ => h.elim) (fun _ _ _ _ h _ => h.elim) (fun _ _ _ _ _ _ _ h _ _ => h.elim)⟩
    · cases h
      exact q _ _ _ S'.gr .non
    · cases h
      exact q _ _ _ g rv
theorem gd_of {x qual : Str} {st : Stmt} {f : Addr} {fd : FuncData} {N ps : List Str} {k : Nat} {R : List Dat → Dat → Prop} {T : TS} (F : Fun K x qual st f fd) (hm : mg x = some (.ref f)) (hb : Binds K fd ps []) (S : FnScope N ps (defScope st))
    (hlen : ∀ ds d, R ds d → ds.length = ps.length)
    (hp : ∀ (cdv : Value) (A : Around) (outer : List Env) (s : Shared) (H : Hp) (E : XK), Room k (A.deeper (envOfC qual (defScope st) s.heap.objs.size f cdv)) → PSs (cxOf CX0 P w K mg base N qual (defScope st) f cdv A outer s H E).nox (defBody st) T)
    (hs : ∀ ds d, R ds d → SemS K (fun _ _ _ _ => False) T (slots N.length ds) { nx := fun _ => d = .non, rt := fun d' => d' = d }) : GD P w K mg base (k + 1) x ps (spD K R) :=
  ⟨f, fd, fn_d F S hlen hp hs, hm, F.kp, hb⟩
end
end DL

set_option Elab.async false
set_option linter.all false
set_option maxRecDepth 100000
namespace DL
open PySem PySem.Spec PyProof.Rows L2
open Evl (Ex ex_l ex_t fresh_back)

/-! ### methods of texts -/
def uSplit : V → List V → Hp → VK → Prop := fun x xs H Q => ∃ a b, x = .str a ∧ xs = [.str b] ∧ (b.length == 0) = false ∧ a.length + 2 ≤ sizeLine ∧ rNewStrs (Txt.split a b) H Q
def uJoin (K : PySem.W.Frag) : V → List V → Hp → VK → Prop := fun x xs H Q => ∃ a p, ∃ ys : List Str, x = .str a ∧ xs = [.ref p] ∧ (SqL K H p (ys.map V.str) ∨ SqT K H p (ys.map V.str)) ∧ (ys.map (·.length)).sum + ys.length * a.length ≤ 16777216 ∧ Q (.str (Txt.join a ys)) H
def uStarts3 : V → List V → Hp → VK → Prop := fun x xs H Q => ∃ (a b : Str) (i : Int), x = .str a ∧ xs = [.str b, .int i] ∧ Q (.bl (Txt.startswith3 a b i)) H
def uFind3 : V → List V → Hp → VK → Prop := fun x xs H Q => ∃ (a b : Str) (i : Int), x = .str a ∧ xs = [.str b, .int i] ∧ Q (.int (Txt.find3 a b i)) H
section
variable {X : Cx} {K : PySem.W.Frag} {o e : Expr} {es : List Expr} {to te : TE} {ta : TA} {apos pos : Pos}
theorem pe_usplit (ho : PE X o to) (he : PE X e te) (hs : starEach [e] X.env = [(false, eval e X.env)] := by rfl) (hbase : attributeBase o "split" X.env (eval o X.env) = eval o X.env := by rfl) (hline : (apos.endLine == pos.line) = true := by rfl) :
    PE X (.Call (.Attribute o "split" apos) [e] [] pos) (tM1 uSplit to te) := pe_split ho he hs hbase hline
theorem pe_ujoin (hK : X.K = K) (ho : PE X o to) (he : PE X e te) (hs : starEach [e] X.env = [(false, eval e X.env)] := by rfl) (hbase : attributeBase o "join" X.env (eval o X.env) = eval o X.env := by rfl) (hline : (apos.endLine == pos.line) = true := by rfl) :
    PE X (.Call (.Attribute o "join" apos) [e] [] pos) (tM1 (uJoin K) to te) := by
  subst hK
  exact pe_join ho he hs hbase hline
end
def joinL (a : List Nat) : List (List Nat) → List Nat
  | [] => []
  | [x] => x
  | x :: y :: r => x ++ a ++ joinL a (y :: r)
theorem join_strL (a : List Nat) : ∀ ys : List (List Nat), Str.join (strL a) (ys.map strL) = strL (joinL a ys)
  | [] => rfl
  | [x] => rfl
  | x :: y :: r => by
    have ih := join_strL a (y :: r)
    show strL x ++ strL a ++ Str.join (strL a) ((y :: r).map strL) = strL (x ++ a ++ joinL a (y :: r))
    rw [ih, strL_app, strL_app]
section
variable {K : PySem.W.Frag} {ρ : List Sl} {t ta tb tc te : TE} {a b c d : Dat}
theorem ofStrs {G : Hp} : ∀ ys : List Str, DRs K G (ys.map V.str) (ys.map fun s => .txt s.cps.toList)
  | [] => .nil
  | y :: r => .cons (.ofStr y) (ofStrs r)
theorem ms_split {a b : List Nat} (hb : b ≠ []) (ha : a.length ≤ 16000000) : MtS K uSplit (.txt a) [.txt b] (.lst ((Txt.split (strL a) (strL b)).map fun s => .txt s.cps.toList)) := fun x xs G H e rx rs Q q => by
  cases rx
  cases rs with
  | cons h r =>
    cases r; cases h
    refine ⟨_, _, rfl, rfl, ?_, ?_, fun p hp => q _ _ _ (Grow.new e hp) (.lst upd_same (ofStrs _))⟩
    · rw [← strL, strL_len]
      cases b with
      | nil => exact absurd rfl hb
      | cons c r => rfl
    · rw [← strL, strL_len]
      unfold sizeLine
      omega
theorem ms_join {a : List Nat} {ys : List (List Nat)} (hz : (ys.map (·.length)).sum + ys.length * a.length ≤ 16777216) : MtS K (uJoin K) (.txt a) [.lst (ys.map .txt)] (.txt (joinL a ys)) := fun x xs G H e rx rs Q q => by
  cases rx
  cases rs with
  | cons h r =>
    cases r
    cases h with
    | lst hl r =>
      have z := r.txts
      subst z
      refine ⟨_, _, ys.map strL, rfl, rfl, .inl (.inl (.inl (e _ _ hl))), ?_, ?_⟩
      · rw [← strL, strL_len, List.length_map, List.map_map]
        have e2 : ((fun s : Str => s.length) ∘ strL) = fun l : List Nat => l.length := by
          funext l
          exact strL_len l
        rw [e2]
        exact hz
      · rw [← strL, show Txt.join (strL a) (ys.map strL) = Str.join (strL a) (ys.map strL) from StrLaws.glued_eq_join _ _, join_strL]
        exact q _ _ _ (Grow.refl e) (.txt _)
theorem ms_joinM {α : Type} {a : List Nat} {xs : List α} {f : α → List Nat} (hz : ((xs.map f).map (·.length)).sum + xs.length * a.length ≤ 16777216) : MtS K (uJoin K) (.txt a) [.lst (xs.map fun x => .txt (f x))] (.txt (joinL a (xs.map f))) := by
  have h := ms_join (K := K) (a := a) (ys := xs.map f) (by rw [List.length_map]; exact hz)
  rw [List.map_map] at h
  exact h
theorem s_dnew : Sem K tDNewK ρ (.dct []) := fun G0 B0 σ G H S Q q p hp => q _ _ _ (Grow.new S.gr.s hp) (.dct (.inl upd_same) .nil)
/-! ### comprehensions over a list that is made of something -/
theorem sn_lcF {α : Type} {wi : TI} {tt : TT} {j : Nat} {enc : α → Dat} {xs : List α} {f : α → Bool} {g : α → Dat} (hi : SemI K wi ρ (xs.map enc)) (hz : xs.length ≤ sizeLine)
    (ht : ∀ x, x ∈ xs → SemT K tt (ρ.set j (.dat (enc x))) (f x)) (he : ∀ x, x ∈ xs → f x = true → Sem K te (ρ.set j (.dat (enc x))) (g x)) :
    SemN K (tLc wi (gName j) tt te [j]) ρ ((xs.filter f).map g) := fun G0 B0 σ G H S Q q =>
  hi _ _ _ _ _ S _ fun J G1 H1 g1 W D hD => by
    have S1 := S.grow g1
    have hl : (xs.map enc).length = xs.length := List.length_map _
    refine ⟨fun i m H' => m = xs.length - i ∧ i ≤ xs.length ∧ ∃ G' acc, Grow G1 H1 G' H' ∧ G' D = none ∧ H' D = some (.lst acc) ∧ DRs K G' acc (((xs.take i).filter f).map g), ⟨xs.length, by omega, Nat.zero_le _, G1, [], Grow.newM g1.s hD, fresh_back g1.s hD, upd_same, .nil⟩, ?_⟩
    rintro i m H' ⟨rfl, hi', G', acc, g2, n2, h2, r2⟩
    have hacc : acc.length ≤ i := by
      rw [r2.length, List.length_map]
      refine Nat.le_trans (List.length_filter_le _ _) ?_
      rw [List.length_take]; omega
    by_cases hlt : i < xs.length
    · have hx : xs[i]? = some xs[i] := List.getElem?_eq_getElem hlt
      have hd : (xs.map enc)[i]? = some (enc xs[i]) := by rw [List.getElem?_map, hx]; rfl
      have hmem : xs[i] ∈ xs := List.getElem_mem hlt
      refine .inr ⟨W.go i G' H' g2.g g2.s (by omega), fun H'' => i + 1 ≤ xs.length ∧ ∃ G' acc, Grow G1 H1 G' H'' ∧ G' D = none ∧ H'' D = some (.lst acc) ∧ DRs K G' acc (((xs.take (i + 1)).filter f).map g), fun H'' p => ⟨xs.length - (i + 1), by omega, rfl, p⟩, fun x H'' hy => ?_⟩
      obtain ⟨G3, g3, rx⟩ := W.yld i G' H' x H'' (enc xs[i]) g2.g g2.s hd hy
      have S3 : Sat K G0 B0 (ρ.set j (.dat (enc xs[i]))) ((wipe σ [j]).set j (some x)) G3 H'' := by
        have z := (((S1.grow g2).grow g3).forget1 (i := j)).set (i := j) rx
        rw [List.set_set] at z
        exact z
      refine ⟨wipe_set σ j x, ht _ hmem _ _ _ _ _ S3 _ fun G4 H4 g4 => ?_⟩
      have n4 : G4 D = none := (g3.trans g4).m D n2 (by rw [h2]; simp)
      have h4 : H4 D = some (.lst acc) := (g3.trans g4).h _ _ h2
      have et : xs.take (i + 1) = xs.take i ++ [xs[i]] := by rw [List.take_add_one, hx]; rfl
      cases hf : f xs[i] with
      | false =>
        rw [if_neg (by simp)]
        refine ⟨hlt, G4, acc, (g2.trans g3).trans g4, n4, h4, ?_⟩
        rw [et, List.filter_append, List.filter_cons, hf]
        simp only [Bool.false_eq_true, if_false, List.filter_nil, List.append_nil]
        exact r2.mono (g3.trans g4).g
      | true =>
        rw [if_pos rfl]
        refine he _ hmem hf _ _ _ _ _ (S3.grow g4) _ fun y G5 H5 g5 ry => ?_
        have n5 : G5 D = none := g5.m D n4 (by rw [h4]; simp)
        have h5 : H5 D = some (.lst acc) := g5.h _ _ h4
        have gg := ((g2.trans g3).trans g4).trans g5
        refine ⟨acc, h5, by omega, hlt, G5, acc ++ [y], ⟨gg.g, gg.s.mut n5, gg.h.mut hD, gg.m⟩, n5, upd_same, ?_⟩
        rw [et, List.filter_append, List.filter_cons, hf]
        simp only [if_true, List.filter_nil, List.map_append, List.map_cons, List.map_nil]
        exact (r2.mono ((g3.trans g4).trans g5).g).append (.cons ry .nil)
    · have ei : i = xs.length := by omega
      subst ei
      rw [List.take_length] at r2
      exact .inl ⟨W.stop _ G' H' g2.g g2.s (by omega), q D acc G' H' (g1.trans g2) (fresh_back g1.h hD) n2 h2 r2⟩
theorem sn_lcM {α : Type} {wi : TI} {j : Nat} {enc : α → Dat} {xs : List α} {g : α → Dat} (hi : SemI K wi ρ (xs.map enc)) (hz : xs.length ≤ sizeLine)
    (he : ∀ x, x ∈ xs → Sem K te (ρ.set j (.dat (enc x))) (g x)) : SemN K (tLc wi (gName j) tYes te [j]) ρ (xs.map g) := by
  have h := sn_lcF (K := K) (ρ := ρ) (te := te) (tt := tYes) (j := j) (f := fun _ => true) (g := g) hi hz (fun _ _ => st_yes) (fun x hx _ => he x hx)
  rw [List.filter_eq_self.mpr (fun _ _ => rfl)] at h
  exact h
theorem cs_allM {α : Type} {xs : List α} {p : α → Bool} : CallS K (rAll K) [.lst (xs.map fun x => .bl (p x))] (.bl (xs.all p)) := by
  have h := cs_all (K := K) (bs := xs.map p)
  rw [List.map_map, List.all_map] at h
  exact h
theorem st_test {te : TE} {k : Bool} (h : Sem K te ρ (.bl k)) : SemT K (tTest te) ρ k := fun G0 B0 σ G H S Q q => h _ _ _ _ _ S _ fun x G1 H1 g1 rx => by
  cases rx
  exact ⟨k, rfl, q _ _ g1⟩
/-! ### += -/
def uIpAdd : TIp := fun x y H Q => (∃ i j, x = .int i ∧ y = .int j ∧ Q (.int (i + j)) H) ∨ rExt2 x y H Q ∨ (∃ i j, x = .str i ∧ y = .str j ∧ i.length + j.length ≤ sizeLine ∧ Q (.str (i ++ j)) H)
theorem ipu_add {X : Cx} : PIp X .Add uIpAdd := by
  intro pins s σ H x y v u Q I rx ry h
  rcases h with h | h | h
  · exact ip_add pins s σ H x y v u Q I rx ry h
  · exact iop_ext pins s σ H x y v u Q I rx ry h
  · exact iop_add_str pins s σ H x y v u Q I rx ry h
variable {P : Post} {W : WX}
theorem ss_plus {i : Nat} {a b : Int} (hi : ρ[i]? = some (.dat (.int a))) (h : Sem K te ρ (.int b)) (p : P.nx (ρ.set i (.dat (.int (a + b))))) : SemS K W (tAug i te uIpAdd) ρ P := fun G0 B0 σ G H D S n r bk c x => by
  obtain ⟨v, k1, k2⟩ := S.dat i _ hi
  refine ⟨v, k1, h _ _ _ _ _ S _ fun y G1 H1 g1 ry => ?_⟩
  cases k2; cases ry
  exact .inl ⟨a, b, rfl, rfl, n _ _ _ _ p ((S.grow g1).set (.int _))⟩
/-- xs += a list -/
theorem ss_ext {i : Nat} {ds es : List Dat} (hi : ρ[i]? = some (.own ds)) (h : Sem K te ρ (.lst es)) (hz : ds.length + es.length ≤ sizeLine) (p : P.nx (ρ.set i (.own (ds ++ es)))) : SemS K W (tAug i te uIpAdd) ρ P := fun G0 B0 σ G H D S n r b c x => by
  obtain ⟨p0, vs0, k1, _, _, k4, _⟩ := S.own i ds hi
  refine ⟨.ref p0, k1, h _ _ _ _ _ S _ fun v G1 H1 g1 rv => ?_⟩
  have S1 := S.grow g1
  obtain ⟨p1, vs, l1, l2, l3, l4, l5⟩ := S1.own i ds hi
  have : p0 = p1 := by rw [k1] at l1; simpa using l1
  subst this
  cases rv with
  | lst hl r =>
    refine .inr (.inl ⟨p0, _, vs, _, rfl, rfl, l4, S1.gr.s _ _ hl, by rw [l5.length, r.length]; exact hz, n _ _ G1 _ p ?_⟩)
    have z := S1.write hi l1 (l5.append r)
    have e : σ.set i (some (.ref p0)) = σ := by
      apply List.ext_getElem?
      intro m
      by_cases q : i = m
      · subst q
        rw [List.getElem?_set_self', k1]
        rfl
      · rw [List.getElem?_set_ne q]
    rw [e]
    exact z
end
end DL
namespace DL
open PySem PySem.Spec PyProof.Rows L2
open Evl (Ex ex_l ex_t fresh_back)
section
variable {K : PySem.W.Frag} {ρ : List Sl}
theorem si_range1Z {ta : TA} {z : Int} (h : SemA K ta ρ [.int z]) (h0 : 0 ≤ z) (hn : z ≤ 1000000000) : SemI K (iRng1 ta) ρ ((List.range z.toNat).map fun k => .int ((k : Nat) : Int)) := by
  have e : z = ((z.toNat : Nat) : Int) := (Int.toNat_of_nonneg h0).symm
  rw [e] at h
  exact si_range1 h (by omega)
theorem os_in2 {a x y : List Nat} : OpS K (uIn K) (.txt a) (.tup [.txt x, .txt y]) (.bl (decide (a ∈ [x, y]))) := os_inTT (bs := [x, y])
theorem os_in3 {a x y z : List Nat} : OpS K (uIn K) (.txt a) (.tup [.txt x, .txt y, .txt z]) (.bl (decide (a ∈ [x, y, z]))) := os_inTT (bs := [x, y, z])
theorem os_notin2 {a x y : List Nat} : OpS K (uNotIn K) (.txt a) (.tup [.txt x, .txt y]) (.bl (!decide (a ∈ [x, y]))) := os_notinTT (bs := [x, y])
end
theorem atI_getD {α : Type} {xs : List α} {i : Int} (d : α) (h0 : 0 ≤ i) (h1 : i < xs.length) : atI xs i = some (xs.getD i.toNat d) := by
  have e : i = ((i.toNat : Nat) : Int) := (Int.toNat_of_nonneg h0).symm
  have hl : i.toNat < xs.length := by omega
  have z : xs[i.toNat]? = some (xs.getD i.toNat d) := by
    rw [List.getElem?_eq_getElem hl, List.getD_eq_getElem?_getD, List.getElem?_eq_getElem hl]
    rfl
  have w := atI_nat z
  rw [← e] at w
  exact w
theorem atI_mapD {α β : Type} (f : α → β) {xs : List α} {i : Int} (d : α) (h0 : 0 ≤ i) (h1 : i < xs.length) : atI (xs.map f) i = some (f (xs.getD i.toNat d)) := atI_map f (atI_getD d h0 h1)
theorem cutL_len {α : Type} (xs : List α) (lo hi : Option Int) : (cutL xs lo hi).length ≤ xs.length := by
  unfold cutL
  rw [List.length_take, List.length_drop]
  omega
theorem sum_len_le {α : Type} (f : α → List Nat) (m : Nat) : ∀ xs : List α, (∀ x ∈ xs, (f x).length ≤ m) → ((xs.map f).map (·.length)).sum ≤ xs.length * m
  | [], _ => Nat.zero_le _
  | x :: r, h => by
    have h1 := h x List.mem_cons_self
    have h2 := sum_len_le f m r fun y hy => h y (List.mem_cons_of_mem _ hy)
    rw [List.map_cons, List.map_cons, List.sum_cons, List.length_cons, Nat.succ_mul]
    show (f x).length + _ ≤ _
    omega
end DL
namespace DL
open PySem PySem.Spec PyProof.Rows L2
theorem kb_NoneType_str : kitB "NoneType" "str" = some false := by decide +kernel
theorem kb_NoneType_bool : kitB "NoneType" "bool" = some false := by decide +kernel
theorem kb_NoneType_int : kitB "NoneType" "int" = some false := by decide +kernel
theorem kb_NoneType_list : kitB "NoneType" "list" = some false := by decide +kernel
theorem kb_NoneType_tuple : kitB "NoneType" "tuple" = some false := by decide +kernel
theorem kb_NoneType_dict : kitB "NoneType" "dict" = some false := by decide +kernel
theorem kb_bool_str : kitB "bool" "str" = some false := by decide +kernel
theorem kb_bool_bool : kitB "bool" "bool" = some true := by decide +kernel
theorem kb_bool_int : kitB "bool" "int" = some true := by decide +kernel
theorem kb_bool_list : kitB "bool" "list" = some false := by decide +kernel
theorem kb_bool_tuple : kitB "bool" "tuple" = some false := by decide +kernel
theorem kb_bool_dict : kitB "bool" "dict" = some false := by decide +kernel
theorem kb_int_str : kitB "int" "str" = some false := by decide +kernel
theorem kb_int_bool : kitB "int" "bool" = some false := by decide +kernel
theorem kb_int_int : kitB "int" "int" = some true := by decide +kernel
theorem kb_int_list : kitB "int" "list" = some false := by decide +kernel
theorem kb_int_tuple : kitB "int" "tuple" = some false := by decide +kernel
theorem kb_int_dict : kitB "int" "dict" = some false := by decide +kernel
theorem kb_str_str : kitB "str" "str" = some true := by decide +kernel
theorem kb_str_bool : kitB "str" "bool" = some false := by decide +kernel
theorem kb_str_int : kitB "str" "int" = some false := by decide +kernel
theorem kb_str_list : kitB "str" "list" = some false := by decide +kernel
theorem kb_str_tuple : kitB "str" "tuple" = some false := by decide +kernel
theorem kb_str_dict : kitB "str" "dict" = some false := by decide +kernel
theorem kb_list_str : kitB "list" "str" = some false := by decide +kernel
theorem kb_list_bool : kitB "list" "bool" = some false := by decide +kernel
theorem kb_list_int : kitB "list" "int" = some false := by decide +kernel
theorem kb_list_list : kitB "list" "list" = some true := by decide +kernel
theorem kb_list_tuple : kitB "list" "tuple" = some false := by decide +kernel
theorem kb_list_dict : kitB "list" "dict" = some false := by decide +kernel
theorem kb_tuple_str : kitB "tuple" "str" = some false := by decide +kernel
theorem kb_tuple_bool : kitB "tuple" "bool" = some false := by decide +kernel
theorem kb_tuple_int : kitB "tuple" "int" = some false := by decide +kernel
theorem kb_tuple_list : kitB "tuple" "list" = some false := by decide +kernel
theorem kb_tuple_tuple : kitB "tuple" "tuple" = some true := by decide +kernel
theorem kb_tuple_dict : kitB "tuple" "dict" = some false := by decide +kernel
theorem kb_dict_str : kitB "dict" "str" = some false := by decide +kernel
theorem kb_dict_bool : kitB "dict" "bool" = some false := by decide +kernel
theorem kb_dict_int : kitB "dict" "int" = some false := by decide +kernel
theorem kb_dict_list : kitB "dict" "list" = some false := by decide +kernel
theorem kb_dict_tuple : kitB "dict" "tuple" = some false := by decide +kernel
theorem kb_dict_dict : kitB "dict" "dict" = some true := by decide +kernel
theorem s_ty {K : PySem.W.Frag} {ρ : List Sl} {n : String} : Sem K (tC (.ty n)) ρ (.ty n) := s_c fun _ => .ty n
end DL

set_option Elab.async false
set_option linter.all false
set_option maxRecDepth 100000
set_option maxHeartbeats 1000000
/-! DLe: exceptions: raised with fields or none, caught and kept. -/
namespace DL
open PySem PySem.Spec PyProof.Rows L2
open Evl (Ex ex_l ex_t fresh_back)
section
variable {X : Cx} {pins : List (Addr × Obj)} {σ : L2.St} {H : Hp} {s : Shared}
/-- an exception's object that stood out of sight is tracked -/
theorem keepExc {a : Addr} {oe : Obj} {fv : Array Value} {cls : Value} {d : Option Addr} (I : Inv X pins σ H s) (ha : s.heap.get? a = some oe) (hz : Zc cls d oe) (hd : oe.data = .fields fv) (na : H a = none)
    (nL : a ≠ X.env.locals) (n0 : X.s_0.heap.get? a = none) (np : ∀ p ∈ X.pn ++ pins, p.1 ≠ a) (nc : ∀ y c, X.env.cells.lookup y = some c → c ≠ a) : Inv X pins σ (upd H a (exv a cls d)) s := by
  have ne : ∀ {b : Addr} {o : HO}, H b = some o → b ≠ a := fun {b o} q => ne_of_none q na
  refine ⟨I.ok, I.os, I.bare, ⟨I.base.keep, I.base.slot, fun b o q n hx => ?_, I.base.there, fun b ys q => ?_, fun b o u q => ?_, fun b ps q => ?_⟩, I.loc, I.cell, ?_, fun y c e => ?_, fun p hp => ?_, fun b o q => ?_, I.len⟩
  · have nb : b ≠ a := fun z => by
      rw [z, n0] at q
      cases q
    rw [upd_ne nb]
    exact I.base.free b o q n hx
  · have z := I.base.tups b ys q
    rw [upd_ne (ne z)]
    exact z
  · have z := I.base.frzs b o u q
    rw [upd_ne (ne z)]
    exact z
  · obtain ⟨more, z⟩ := I.base.tbls b ps q
    exact ⟨more, by rw [upd_ne (ne z)]; exact z⟩
  · rw [upd_ne nL.symm]
    exact I.free
  · rw [upd_ne (nc y c e)]
    exact I.freeC y c e
  · obtain ⟨h1, h2, h3⟩ := I.pin p hp
    exact ⟨h1, by rw [upd_ne (np p hp)]; exact h2, h3⟩
  · by_cases hb : b = a
    · subst hb
      rw [upd_same] at q
      cases q
      exact ⟨⟨oe, fv, ha, hz, hd⟩, ⟨oe, ha⟩, fun h1 h2 z k => by
        obtain ⟨o2, v2, e2, z2, d2⟩ := z
        exact ⟨o2, v2, k _ e2, z2, d2⟩⟩
    · rw [upd_ne hb] at q
      exact (I.hok b o q).stay (fun _ _ _ z => z) (fun c z => by rw [upd_ne (ne z)]; exact z) (fun c ys z => by rw [upd_ne (ne z)]; exact z)
theorem toSuite (I : Inv X pins σ H s) (a : Addr) : Inv (X.suite a (X.pn ++ pins)) [] σ H s :=
  ⟨I.ok.suite _ _, I.os, I.bare, I.base, I.loc, I.cell, I.free, I.freeC, fun p hp => I.pin p (by rw [List.append_nil] at hp; exact hp), I.hok, I.len⟩
theorem ofSuite {a : Addr} {pn' : List (Addr × Obj)} (I : Inv (X.suite a (X.pn ++ pins)) pn' σ H s) (ok : X.Ok) : Inv X pins σ H s :=
  ⟨ok, I.os, I.bare, I.base, I.loc, I.cell, I.free, I.freeC, fun p hp => I.pin p (List.mem_append_left _ hp), I.hok, I.len⟩
end
/-- what 'except c as n' wishes of an exception of the body: slot i is n's; the exception is kept -/
def wK (K : PySem.W.Frag) (c : Value) (i : Nat) (ts : TS) (Wout : WX) (D : Ends) : WX := fun cls d σ H =>
  ∃ b, PySem.W.exmOne K cls c = some b ∧ (b = true → ∀ a, H a = none → ts { nx := fun σ' H' => D.nx (σ'.set i none) H', rt := D.rt, bk := fun σ' H' => D.bk (σ'.set i none) H', ct := fun σ' H' => D.ct (σ'.set i none) H' } (σ.set i (some (.ref a))) (upd H a (exv a cls d))) ∧
    (b = false → Wout cls d σ H)
def tTry (K : PySem.W.Frag) (c : Value) (i : Nat) (tb : WX → TS) (ts : TS) (Wout : WX) : TS := fun D σ H => tb (wK K c i ts Wout D) D σ H
section
variable {X : Cx} {K : PySem.W.Frag} {x n : Str} {c : Value} {i : Nat} {body suite : List Stmt} {b₀ : Stmt} {np pos pos' : Pos} {tb : WX → TS} {ts : TS} {Wout : WX}
theorem ps_tryK (hK : X.K = K) (hst : X.stack = X.env :: X.outer) (hfm : X.env.frame = some X.env.locals) (hex : X.ex = []) (hN : X.N.Nodup) (hi : X.N[i]? = some n) (hln : X.env.kindOf n = some .local) (hc : Names X x c) (tk : Takes X Wout)
    (hb : ∀ (W : WX) (pn : List (Addr × Obj)) (xe : Value → Shared → Prop), Takes (X.tr pn xe) W → PassesOwn (model X.prog X.w) X.A X.env xe → PSs (X.tr pn xe) body (tb W))
    (hsu : ∀ (a : Addr) (pn : List (Addr × Obj)), PSs (X.suite a pn) (b₀ :: suite) ts) :
    PS X (.Try body [.ExceptHandler (some (.Name x np)) (some n) (b₀ :: suite) pos'] [] [] pos) (tTry K c i tb ts Wout) := by
  subst hK
  refine ⟨fun pins s σ H D I hw => ?_⟩
  have ok := I.ok
  have frm : X.A.frames = some (X.env :: X.outer) := ok.frames.trans (congrArg some hst)
  refine wpAny_Try_except ?_
  refine wpAny_mono ((hb (wK X.K c i ts Wout D) (X.pn ++ pins) (fun e s₁ => wpAny (model X.prog X.w) X.A (noteFrame e X.env) (fun _ s₂ => wpAny (model X.prog X.w) X.A (setFlight e none) (fun _ s₃ =>
    wpAny (model X.prog X.w) X.A (handleBy e X.env [.ExceptHandler (some (.Name x np)) (some n) (b₀ :: suite) pos']) (SP X pins D) X.xe s₃) X.xe s₂) X.xe s₁) (fun u s' air => ?_) PassesOwn.looking).run [] s σ H D (I.toTry _) hw) (fun f s1 hsp => ?_) (fun e s1 he => he)
  · obtain ⟨a, B, sI, pins', σ', H', cls, d, rfl, J', nb, up, sky, na, os, ag, b, hb1, hyes, hno⟩ := air
    have J : Inv X pins σ' H' sI := J'.ofTry ok
    rw [show (X.tr (X.pn ++ pins) _).stack = X.env :: X.outer from hst] at sky
    show wpAny (model X.prog X.w) X.A (noteFrame (.ref a) X.env) _ _ _
    refine Sky.land Zc.steady frm hfm sky fun h3 fl3 up3 => ?_
    have J3 : Inv X pins σ' H' { s' with heap := h3 } := J.landed nb fl3.1 (up.trans up3) os ag
    obtain ⟨oe3, vs3, he3, hz3, hd3⟩ := fl3.there
    have nfr : a ∉ frs (X.env :: X.outer) := fun hm => by
      obtain ⟨_, o', e', hnf⟩ := fl3.2.2.1.mem hm
      rw [he3] at e'
      cases e'
      exact hnf _ hd3
    have nL : a ≠ X.env.locals := fun z => nfr (List.mem_filterMap.mpr ⟨X.env, List.mem_cons_self, by rw [hfm, z]⟩)
    have gone : sI.heap.get? a = none := by
      cases q : sI.heap.get? a with
      | none => rfl
      | some o =>
        have z := nb a o q (by rw [show (X.tr (X.pn ++ pins) _).stack = X.env :: X.outer from hst]; exact nfr)
        rw [fl3.2.1] at z
        cases z
    have n0 : X.s_0.heap.get? a = none := by
      cases q : X.s_0.heap.get? a with
      | none => rfl
      | some o =>
        obtain ⟨o', z⟩ := J.base.there a o q (by rw [hex]; simp)
        rw [gone] at z
        cases z
    have npn : ∀ p ∈ X.pn ++ pins, p.1 ≠ a := fun p hp z => by
      have w := (J.pin p hp).1
      rw [z, gone] at w
      cases w
    have ncl : ∀ y c, X.env.cells.lookup y = some c → c ≠ a := fun y c e z => by
      obtain ⟨v, w⟩ := J.cell y c e
      rw [z] at w
      obtain ⟨o, w1, _⟩ := w
      rw [gone] at w1
      cases w1
    have S3 : Inv (X.suite a (X.pn ++ pins)) [] σ' H' { s' with heap := h3 } := toSuite J3 a
    refine wpAny_handleBy_cons (codeAny_handlers_test ?_) (by intro q; cases q)
    have LT : PySem.W.Looks (model X.prog X.w) h3 (typeOf (.ref a)) cls := fun A Q E s k q => wpAny_typeOf_ref (k _ _ he3) (by rw [hz3.1]; exact q)
    have LM := PySem.W.exm_one (M := model X.prog X.w) (J3.kIn) LT hb1
    have asked : ∀ {Q : Value → Shared → Prop} {E : Value → Shared → Prop}, Q c { s' with heap := h3 } → wpAny (model X.prog X.w) (X.A.mark (some (.ref a))) (eval (.Name x np) X.env) Q E { s' with heap := h3 } := fun {Q E} q => by
      obtain ⟨hg, hdbg, hm | ⟨hm, hv, hnn⟩⟩ := hc
      · exact ld_glob (X := X.suite a (X.pn ++ pins)) S3 hg hm q hdbg
      · exact ld_blt (X := X.suite a (X.pn ++ pins)) S3 hg hm hv q hnn hdbg
    refine asked (LM.here ?_)
    cases b with
    | true =>
      refine codeAny_handlers_suite_as ?_
      refine HandSPX.lands_againZ fl3 fun h4 fl4 up4 => ?_
      have J4 : Inv X pins σ' H' { s' with heap := h4 } := J.landed nb fl4.1 ((up.trans up3).trans up4) os ag
      obtain ⟨oe4, vs4, he4, hz4, hd4⟩ := fl4.there
      have K4 := toSuite (keepExc J4 he4 hz4 hd4 na nL n0 npn ncl) a
      refine store_ok (X := X.suite a (X.pn ++ pins)) (v := .ref a) K4 hN hi (.inl hln) rfl (fun s5 S5 => ?_) (.inr hln)
      refine wpAny_mono ((hsu a (X.pn ++ pins)).run [] s5 _ _ _ S5 (hyes rfl a na)) (fun f s6 hsp => ?_) (fun _ _ z => False.elim z)
      have leave : ∀ {σ6 : L2.St} {H6 : Hp} {Q : Shared → Prop}, Inv (X.suite a (X.pn ++ pins)) [] σ6 H6 s6 → (∀ s7, Inv X pins (σ6.set i none) H6 s7 → Q s7) →
          wpAny (model X.prog X.w) X.A (do bindName X.env n .none; unbindBehindTheSuite X.env n pos') (fun _ s7 => Q s7) X.xe s6 := fun {σ6 H6 Q} S6 hq => gone_ok (ofSuite S6 ok) hN hi hln hq
      cases f with
      | next =>
        obtain ⟨σ6, H6, S6, q6⟩ := hsp
        exact leave S6 fun s7 J7 => ⟨_, _, J7, q6⟩
      | brk =>
        obtain ⟨σ6, H6, S6, q6⟩ := hsp
        exact leave S6 fun s7 J7 => ⟨_, _, J7, q6⟩
      | cont =>
        obtain ⟨σ6, H6, S6, q6⟩ := hsp
        exact leave S6 fun s7 J7 => ⟨_, _, J7, q6⟩
      | ret u =>
        obtain ⟨v6, σ6, H6, S6, r6, q6⟩ := hsp
        exact leave S6 fun s7 J7 => ⟨_, _, _, J7, r6, q6⟩
    | false =>
      show wpAny _ X.A (handleBy (.ref a) X.env []) _ _ _
      refine wpAny_handleBy_nil ?_
      obtain ⟨k1, k2, k3, oe, vs, T, oT, ts', he, hz, hd, h1, hr⟩ := id fl3
      unfold PySem.passOn
      refine wpAny_bind (wpAny_field he hd h1 ?_)
      rw [if_neg (show ¬ ((Value.ref T == Value.none) = true) from by simp)]
      have fin : wpAny (model X.prog X.w) X.A (setFlight (.ref a) X.env.frame) (fun _ s4 => wpAny (model X.prog X.w) X.A (throw (.ref a) : PySem.Sem Flow) (SP X pins D) X.xe s4) X.xe { s' with heap := h3 } := by
        rw [hfm]
        refine HandSPX.setFlight_upZ fl3 fun h4 hh4 up4 => wpAny_throw (tk _ _ ?_)
        exact ⟨a, B, sI, pins, σ', H', cls, d, rfl, J, nb, (up.trans up3).trans up4, .inr (.inr (by rw [hst]; exact hh4)), na, os, ag, hno rfl⟩
      first
        | exact wpAny_bind (wpAny_pure (wpAny_bind fin))
        | exact wpAny_bind fin
  · cases f with
    | next =>
      obtain ⟨σ', H', J', q⟩ := hsp
      exact wpAny_execs_nil ⟨σ', H', J'.ofTry ok, q⟩
    | brk =>
      obtain ⟨σ', H', J', q⟩ := hsp
      exact ⟨σ', H', J'.ofTry ok, q⟩
    | cont =>
      obtain ⟨σ', H', J', q⟩ := hsp
      exact ⟨σ', H', J'.ofTry ok, q⟩
    | ret u =>
      obtain ⟨v, σ', H', J', r, q⟩ := hsp
      exact ⟨v, σ', H', J'.ofTry ok, r, q⟩
end
end DL

set_option Elab.async false
set_option linter.all false
set_option maxRecDepth 100000
set_option maxHeartbeats 1000000
/-! DLf: attributes, isinstance of objects and exceptions, exceptions made, the same told by data. -/
namespace PySem.W
open PySem.Calls PyProof.Rows
/-- isinstance asks an exception with or without a dict for its class -/
theorem dl_class {K : Frag} {prog : Program} {w : World} {A : Around} {E : Value → Shared → Prop} {s : Shared} {D x : Addr} {ox : Obj} {od : Option Obj} {Q : Option Value → Shared → Prop} (C : L2.ExcC K D)
    (X : K.In s.heap) (I : InstAt s.heap x ox D od) (h : Q (some (.ref D)) { s with toks := s.toks + 1 }) : wpAny (model prog w) A (getAttr? (.ref x) "__class__") Q E s := by
  have hf : findObj K D od "__class__" = some (.bind (.builtin "getset_descriptor.__get__") (.builtin "object.__class__")) := by
    obtain ⟨cd, hc, _⟩ := any_some C.hd
    unfold findObj
    rw [hc, Option.bind_some, C.ha, Option.bind_some]
    simp [C.hn, C.ht]
  obtain ⟨hp, g, dr, t, os⟩ := s
  have T0 := I.type (M := model prog w)
  have T1 := looks_findIn (M := model prog w) X C.hg
  have T2 := looks_findIn (M := model prog w) X C.hk
  have T3 := looks_find (M := model prog w) X I hf
  have isx : Looks (model prog w) hp (isInstance (.ref x) (.type "BaseException")) true := T0.andThen (looks_subIn X C.hs)
  have c0 : (false && onTheHeap (Value.builtin "BaseException.__getattribute__")) = false := rfl
  have c1 : (onTheHeap (Value.ref D) && Value.builtin "BaseException.__getattribute__" == Value.builtin "object.__getattribute__") = false := by
    rw [show (Value.builtin "BaseException.__getattribute__" == Value.builtin "object.__getattribute__") = false from by decide +kernel]
    rfl
  unfold getAttr? getAttrBy? getAttrBy
  refine wpAny_bind (wpAny_mkText (wpAny_bind (wpAny_attempt (wpAny_holding (wpAny_bind (T0.at (wpAny_bind (T1.at ?_))))))))
  show wpAny _ _ (if (onTheHeap (Value.ref D) && Value.builtin "BaseException.__getattribute__" == Value.builtin "object.__getattribute__") = true then _ else _) _ _ _
  rw [c1, if_neg Bool.false_ne_true]
  unfold getAttrByItsOwn hookBefore
  refine wpAny_bind ?_
  rw [if_pos (show onTheHeap (Value.ref D) = true from rfl)]
  refine T2.at (wpAny_bind (wpAny_attempt (wpAny_holding ?_)))
  unfold callGetattribute
  rw [c0, if_neg Bool.false_ne_true]
  unfold boundAndCalled
  rw [PySem.F.excAttr_ValueError.ga.bind (.ref x)]
  refine wpAny_bind (wpAny_pure ?_)
  show wpAny _ _ (call (.builtin "BaseException.__getattribute__") [.ref x, .str "__class__" t]) _ _ _
  refine wpAny_call (codeAny_call_builtin PySem.F.excAttr_ValueError.ga.plain PySem.F.entry_bexc_ga ?_)
  refine @check_slot (model prog w) _ _ ⟨hp, g, dr, t + 1, os⟩ "BaseException.__getattribute__" "BaseException" "__getattribute__" (.ref x) [.str "__class__" t] [] _ (by decide +kernel) (by decide +kernel) isx (PySem.F.args_bexc_ga (.ref x) (.str "__class__" t)) ?_
  unfold Builtin.«object.__getattribute__»
  refine wpAny_bind (wpAny_of_eq (a := ((Value.ref x : Value), [Value.str "__class__" t])) (by first | rfl | (simp only [slotArgs]; rfl)) ?_)
  refine wpAny_bind (wpAny_pure (wpAny_bind (T0.at (wpAny_bind (T3.at ?_)))))
  show wpAny _ _ (holding [Value.builtin "object.__class__"] (call (.builtin "getset_descriptor.__get__") [.builtin "object.__class__", .ref x, .ref D]) >>= ret) _ _ _
  refine wpAny_bind (wpAny_holding (wpAny_call (class_get (s := ⟨hp, g, dr, t + 1, os⟩) (ox := ox) (od := od) X I C.hm (wpAny_pure ?_))))
  show wpAny _ _ (handedOut (.ref D)) _ _ _
  rw [handedOut_of (v := .ref D) rfl]
  first
    | exact wpAny_pure (wpAny_pure h)
    | exact wpAny_pure h
    | exact wpAny_pure (wpAny_bind (wpAny_pure (wpAny_pure h)))
theorem dl_kit {K : Frag} {D x : Addr} {ox : Obj} {od : Option Obj} (C : L2.ExcC K D) : KitX K (.ref x) (.ref D) (fun h => InstAt h x ox D od) where
  ty := fun _ _ _ I => I.type
  it := fun _ _ X _ => by
    obtain ⟨cd, hc, _⟩ := any_some C.hd
    unfold clsIn at hc
    split at hc
    · rename_i ho
      intro A' Q' E' s' k q
      unfold isType loadHead
      exact wpAny_bind (wpAny_loadPart (k _ _ (X _ _ ho)) (wpAny_pure q))
    · cases hc
  ne := fun h tp dd its n sl X htp => by
    obtain ⟨cd, hc, _⟩ := any_some C.hd
    refine Bool.eq_false_iff.mpr fun q => ?_
    have e : D = tp := Value.ref.inj (beq_iff_eq.mp q)
    subst e
    unfold clsIn at hc
    split at hc
    · rename_i ho
      have z := (X _ _ ho).symm.trans htp
      cases z
    · cases hc
  ca := fun X I k => dl_class C X I k
end PySem.W
namespace DL
open PySem PySem.Spec PyProof.Rows L2
open Evl (Ex ex_l ex_t fresh_back)
/-! ### attributes -/
/-- a field of an instance, of a kept exception -/
def uFld (K : PySem.W.Frag) (f : Str) : V → Hp → VK → Prop := fun x H Q => (∃ a C dx fs v, x = .ref a ∧ H a = some (.ins C dx fs) ∧ Cls K C ∧ NoAttr K C f ∧ fs.lookup f = some v ∧ Q v H) ∨
  (∃ a C dd fs v, x = .ref a ∧ H a = some (exv a (.ref C) (some dd)) ∧ XfC K C ∧ PySem.W.findIn K (.ref C) f = some none ∧ H dd = some (.xd fs) ∧ fs.lookup f = some v ∧ Q v H)
def tAt (K : PySem.W.Frag) (f : Str) (te : TE) : TE := fun σ H Q => te σ H fun x H1 => uFld K f x H1 Q
section
variable {X : Cx} {K : PySem.W.Frag} {e : Expr} {te : TE} {f : Str} {pos : Pos}
theorem pe_at (hK : X.K = K) (he : PE X e te) (hb : attributeBase e f X.env (eval e X.env) = eval e X.env := by rfl) : PE X (.Attribute e f pos) (tAt K f te) := by
  subst hK
  refine ⟨fun pins s σ H Q I hw => attr_of hb (thn (he.run pins s σ H _ I hw) fun u s1 got => ?_)⟩
  obtain ⟨x, H1, I1, rx, hx⟩ := got
  rcases hx with ⟨a, C, dx, fs, v, rfl, ea, c, n, l, q⟩ | ⟨a, C, dd, fs, v, rfl, ea, T, hno, ed, l, q⟩
  · obtain rfl : u = Value.ref a := rx
    exact getattr_ok I1 ea c n l fun u' s2 I2 ru => ⟨v, H1, I2, ru, q⟩
  · obtain rfl : u = Value.ref a := rx
    have oa : ObjOk X.prog X.w H1 s1.heap a (exv a (.ref C) (some dd)) := I1.hok a _ ea
    obtain ⟨⟨oe, vs, ho, hz, hd⟩, _⟩ := (show (∃ oe vs, s1.heap.get? a = some oe ∧ Zc (.ref C) (some dd) oe ∧ oe.data = .fields vs) ∧ _ from oa)
    obtain ⟨mA, hns, hr⟩ := (show ObjOk X.prog X.w H1 s1.heap dd (.xd fs) from I1.hok dd _ ed)
    obtain ⟨od, hod, hl⟩ := lookIn_ns hns
    obtain ⟨w, hu, ru⟩ := RelO.some_of (v := v) (o := mA f) (by rw [← l]; exact hr f)
    have J : PySem.W.InstAt s1.heap a oe C (some od) := ⟨ho, hz.1, by unfold PySem.W.notCls; rw [hd] <;> rfl, by rw [hz.2]; exact hod⟩
    exact HandSPX.exc_get I1.kIn J T.ga T.gg T.exC (PySem.W.findObj_own T.hdC hno rfl (by rw [hl, hu])) (handed_of ru) ⟨v, H1, I1.tok _, ru, q⟩
end
/-! ### isinstance -/
/-- of all values that TyX knows, of kept exceptions; one class -/
def uIsi (K : PySem.W.Frag) : List V → Hp → VK → Prop := fun xs H Q => rIsi K xs H Q ∨
  (∃ (a D : Addr) (d : Option Addr) (c : V) (u : Value) (b : Bool), xs = [.ref a, c] ∧ ClsV c u ∧ H a = some (exv a (.ref D) d) ∧ (∀ dd, d = some dd → ∃ fs, H dd = some (.xd fs)) ∧ ExcC K D ∧ PySem.W.kitOne K (.ref D) u = some b ∧ Q (.bl b) H) ∨
  (∃ (x : V) (tp : Addr) (cs : List V) (t : Value) (us : List Value) (b : Bool), xs = [x, .ref tp] ∧ SqT K H tp cs ∧ Paired ClsV cs us ∧ TyX K H x t ∧ PySem.W.kitAny K t us = some b ∧ Q (.bl b) H)
theorem cu_isiU {X : Cx} {K : PySem.W.Frag} (hK : X.K = K) : CallR X (.builtin "isinstance") (uIsi K) := by
  subst hK
  intro pins s σ H xs us Q I r hw
  rcases hw with hw | ⟨a, D, d, c, cv, b, rfl, hc, ea, hd, C, e, q⟩ | ⟨x, tp, cs, t, ws, b, rfl, hT, k, ty, e, q⟩
  · exact call_isi pins s σ H xs us Q I r hw
  · cases r with
    | cons rx rr =>
      cases rr with
      | cons rt rr =>
        cases rr
        cases rx
        have ec := hc.eq rt
        subst ec
        have oa : ObjOk X.prog X.w H s.heap a (exv a (.ref D) d) := I.hok a _ ea
        obtain ⟨⟨oe, vs, ho, hz, hv⟩, _⟩ := (show (∃ oe vs, s.heap.get? a = some oe ∧ Zc (.ref D) d oe ∧ oe.data = .fields vs) ∧ _ from oa)
        have J : ∃ od, PySem.W.InstAt s.heap a oe D od := by
          cases d with
          | none => exact ⟨none, ho, hz.1, by unfold PySem.W.notCls; rw [hv] <;> rfl, by rw [hz.2]; trivial⟩
          | some dd =>
            obtain ⟨fs, ed⟩ := hd dd rfl
            obtain ⟨mA, hns, hr⟩ := (show ObjOk X.prog X.w H s.heap dd (.xd fs) from I.hok dd _ ed)
            obtain ⟨od, hod, hl⟩ := lookIn_ns hns
            exact ⟨some od, ho, hz.1, by unfold PySem.W.notCls; rw [hv] <;> rfl, by rw [hz.2]; exact hod⟩
        obtain ⟨od, J⟩ := J
        exact PySem.W.kia_one (PySem.W.dl_kit C) I.kIn J e (fun z => nomatch z) fun tk => ⟨.bl b, H, I.kept (t' := tk) fun _ _ z => z, rfl, q⟩
  · obtain ⟨u1, u2, rfl, r1, r2⟩ := vals2 r
    cases (show u2 = Value.ref tp from r2)
    obtain ⟨P, Z, p, hx⟩ := kit_of I r1 ty
    obtain ⟨its, rv, ⟨o, h1, h2, n, h3⟩, _⟩ := I.tuple hT
    have e3 := ClsV.all k rv
    subst e3
    obtain ⟨oc, od, dt, sl⟩ := o
    simp only at h2 h3
    subst h2 h3
    exact PySem.W.kia_tup Z I.kIn p h1 e hx fun tk => ⟨.bl b, H, I.tok tk, rfl, q⟩
/-! ### the base class's __init__ -/
section
variable {X : Cx} {K : PySem.W.Frag} {e : Expr} {es : List Expr} {ta : TA} {x : Str} {p1 p2 pos : Pos} {G : Addr} {mc : Value}
theorem pe_baseinit {pl : PySem.Sem Bool} (hK : X.K = K) (hg : Gl X x) (hm : X.mg x = some (.ref G)) (rd : PySem.W.readsIn K G mc = true) (ga : PySem.W.specialIn K (.ref G) "__getattribute__" = some (some (.builtin "type.__getattribute__"))) (hv : PySem.W.findCls K (.ref G) mc "__init__" = some (.val (.builtin "ValueError.__init__"))) (ha : PA X (e :: es) ta)
    (hc : eval (.Call (.Attribute (.Name x p1) "__init__" p2) (e :: es) [] pos) X.env = (do
      let ov ← eval (.Name x p1) X.env
      standAt p2.atName
      let (f, first) ← holding [ov] (getMethod ov "__init__" pl)
      callWith pos f first (backTo pos (starEach (e :: es) X.env)) (backToKw pos (keywordEach [] X.env))) := by rfl)
    (he : starEach (e :: es) X.env = (false, eval e X.env) :: starEach es X.env := by rfl) (hpl : (backTo pos (starEach es X.env)).any (·.1) = false := by rfl) (hdb : (x == ("__debug__" : Str)) = false := by decide) :
    PE X (.Call (.Attribute (.Name x p1) "__init__" p2) (e :: es) [] pos) (tVeI K ta) := by
  subst hK
  refine ⟨fun pins s σ H Q I hw => PySem.W.methodCall_KW (ld_glob I hg hm ?_ hdb) hc⟩
  refine PySem.W.method_cls I.kIn ga (PySem.W.cls_value I.kIn rd hv (by decide +kernel) ?_)
  show wpAny _ _ (callWith pos (Value.builtin "ValueError.__init__") [] (backTo pos (starEach (e :: es) X.env)) []) _ _ _
  refine PyProof.Rows.callWith_method1 (thn (ha.run pos pins _ σ H _ (I.tok _) hw) fun us s1 got => ?_) he hpl
  obtain ⟨vs, H1, I1, r1, a, C, ws, ev, hl, T, ea, q⟩ := got
  subst ev
  cases r1 with
  | @cons _ u0 _ ur ra rw' =>
    obtain rfl : u0 = Value.ref a := ra
    refine oinit_ok T I1 ea ?_ fun s' J => ⟨.non, H1, J, rfl, q⟩
    rw [← Paired.length rw', sizeLine_eq]
    omega
end
/-! ### what is told of an exception -/
inductive Out where
  | val (d : Dat) | exc (C : Addr) (fs : List (Str × Dat)) | mt (o : OD)
abbrev Out.new (ds : List Dat) : Out := .mt (.pl ds)
def spO (K : PySem.W.Frag) (R : List Dat → Out → Prop) : Sp := fun vs H Q E => ∃ G ds, Ex G H ∧ DRs K G vs ds ∧
  ((∃ d, R ds (.val d) ∧ ∀ v G' H', Grow G H G' H' → DR K G' v d → Q v H') ∨ (∃ C fs, R ds (.exc C fs) ∧ ∀ dd G' H', Grow G H G' H' → DX K G' dd fs → E (.ref C) dd H') ∨
  (∃ o, R ds (.mt o) ∧ ∀ v T G' H', Grow G H G' H' → OR K G' H' v o T → (∀ a ∈ T, H a = none ∧ G' a = none) → Q v H'))
/-- an expression raises -/
def SemX (K : PySem.W.Frag) (W : WX) (t : TE) (ρ : List Sl) (C : Addr) (fs : List (Str × Dat)) : Prop :=
  ∀ G0 B0 σ G H, Sat K G0 B0 ρ σ G H → ∀ Q : VK, (∀ dd G' H', Grow G H G' H' → DX K G' dd fs → W (.ref C) dd σ H') → t σ H Q
def SemXA (K : PySem.W.Frag) (W : WX) (t : TA) (ρ : List Sl) (C : Addr) (fs : List (Str × Dat)) : Prop :=
  ∀ G0 B0 σ G H, Sat K G0 B0 ρ σ G H → ∀ Q : List V → Hp → Prop, (∀ dd G' H', Grow G H G' H' → DX K G' dd fs → W (.ref C) dd σ H') → t σ H Q
/-- a def of the module that may raise -/
structure GX (P : Program) (w : World) (K : PySem.W.Frag) (mg : Str → Option Value) (base : Heap) (k : Nat) (x : Str) (ps : List Str) (sp : Sp) : Prop where
  ex : ∃ f fd, FnOk P w K mg base (L2.CX P w) k f fd ps sp ∧ mg x = some (.ref f) ∧ PySem.W.keepIn K (.ref f) = true ∧ Binds K fd ps []
theorem GX.mono {P : Program} {w : World} {K : PySem.W.Frag} {mg : Str → Option Value} {base : Heap} {j k : Nat} {x : Str} {ps : List Str} {sp : Sp} (h : GX P w K mg base j x ps sp) (hj : j ≤ k) : GX P w K mg base k x ps sp := by
  obtain ⟨f, fd, F, r⟩ := h.ex
  exact ⟨f, fd, F.mono hj, r⟩
section
variable {X : Cx} {x : Str} {p pos : Pos} {e : Expr} {es : List Expr} {t : TA} {k : Nat} {ps : List Str} {sp : Sp} {W : WX}
/-- called where what it raises is wished for -/
theorem pe_gx (h : GX X.prog X.w X.K X.mg X.base k x ps sp) (tk : Takes X W) (hr : Room k X.A) (hg : Gl X x) (ha : PA X (e :: es) t) (hdb : (x == ("__debug__" : Str)) = false := by decide)
    (he : starEach (e :: es) X.env = (false, eval e X.env) :: starEach es X.env := by rfl) (hpl : (backTo pos (starEach es X.env)).any (·.1) = false := by rfl) : PE X (.Call (.Name x p) (e :: es) [] pos) (tCallSD sp [] (WE W) t) := by
  obtain ⟨f, fd, F, hm, hk, hb⟩ := h.ex
  exact pe_callSD F hr hg hm hk hb .nil (fun σ => passAt tk σ) ha hdb he hpl
/-- called where it raises nothing -/
theorem pe_gx0 (h : GX X.prog X.w X.K X.mg X.base k x ps sp) (hr : Room k X.A) (hg : Gl X x) (ha : PA X (e :: es) t) (hdb : (x == ("__debug__" : Str)) = false := by decide)
    (he : starEach (e :: es) X.env = (false, eval e X.env) :: starEach es X.env := by rfl) (hpl : (backTo pos (starEach es X.env)).any (·.1) = false := by rfl) : PE X (.Call (.Name x p) (e :: es) [] pos) (tCall sp [] E0 t) := by
  obtain ⟨f, fd, F, hm, hk, hb⟩ := h.ex
  exact pe_call F hr hg hm hk hb .nil passL ha hdb he hpl
end
section
variable {K : PySem.W.Frag} {ρ : List Sl} {t ta tb tc te : TE} {a b c d : Dat} {W : WX} {P : Post} {C : Addr} {fs : List (Str × Dat)}
theorem s_callO {R : List Dat → Out → Prop} {E : L2.St → XK} {u : TA} {ds : List Dat} (h : SemA K u ρ ds) (hr : R ds (.val c)) : Sem K (tCallSD (spO K R) [] E u) ρ c := fun G0 B0 σ G H S Q q =>
  h _ _ _ _ _ S _ fun xs G1 H1 g1 rs => ⟨G1, ds, g1.s, by rw [List.append_nil]; exact rs, .inl ⟨c, hr, fun v G2 H2 g2 rv => q v G2 H2 (g1.trans g2) rv⟩⟩
theorem s_callO0 {R : List Dat → Out → Prop} {E : XK} {u : TA} {ds : List Dat} (h : SemA K u ρ ds) (hr : R ds (.val c)) : Sem K (tCall (spO K R) [] E u) ρ c := fun G0 B0 σ G H S Q q =>
  h _ _ _ _ _ S _ fun xs G1 H1 g1 rs => ⟨G1, ds, g1.s, by rw [List.append_nil]; exact rs, .inl ⟨c, hr, fun v G2 H2 g2 rv => q v G2 H2 (g1.trans g2) rv⟩⟩
/-- what is called tells a new thing -/
theorem sm_callO {R : List Dat → Out → Prop} {E : L2.St → XK} {u : TA} {ds : List Dat} {o : OD} (h : SemA K u ρ ds) (hr : R ds (.mt o)) : SemM K (tCallSD (spO K R) [] E u) ρ o := fun G0 B0 σ G H S Q q =>
  h _ _ _ _ _ S _ fun xs G1 H1 g1 rs => ⟨G1, ds, g1.s, by rw [List.append_nil]; exact rs, .inr (.inr ⟨o, hr, fun v T G2 H2 g2 rv hT => q v T G2 H2 (g1.trans g2) rv fun a ha => ⟨fresh_back g1.h (hT a ha).1, (hT a ha).2⟩⟩)⟩
theorem sm_callO0 {R : List Dat → Out → Prop} {E : XK} {u : TA} {ds : List Dat} {o : OD} (h : SemA K u ρ ds) (hr : R ds (.mt o)) : SemM K (tCall (spO K R) [] E u) ρ o := fun G0 B0 σ G H S Q q =>
  h _ _ _ _ _ S _ fun xs G1 H1 g1 rs => ⟨G1, ds, g1.s, by rw [List.append_nil]; exact rs, .inr (.inr ⟨o, hr, fun v T G2 H2 g2 rv hT => q v T G2 H2 (g1.trans g2) rv fun a ha => ⟨fresh_back g1.h (hT a ha).1, (hT a ha).2⟩⟩)⟩
theorem sn_ofM {ds : List Dat} (h : SemM K te ρ (.pl ds)) : SemN K te ρ ds := fun G0 B0 σ G H S Q q =>
  h _ _ _ _ _ S _ fun v T G1 H1 g1 r hT => by
    cases r with
    | pl k1 k2 => exact q _ _ _ _ g1 (hT _ List.mem_cons_self).1 (hT _ List.mem_cons_self).2 k1 k2
theorem sn_callO {R : List Dat → Out → Prop} {E : L2.St → XK} {u : TA} {ds es : List Dat} (h : SemA K u ρ ds) (hr : R ds (.new es)) : SemN K (tCallSD (spO K R) [] E u) ρ es := sn_ofM (sm_callO h hr)
theorem sn_callO0 {R : List Dat → Out → Prop} {E : XK} {u : TA} {ds es : List Dat} (h : SemA K u ρ ds) (hr : R ds (.new es)) : SemN K (tCall (spO K R) [] E u) ρ es := sn_ofM (sm_callO0 h hr)
theorem sx_call {R : List Dat → Out → Prop} {u : TA} {ds : List Dat} (h : SemA K u ρ ds) (hr : R ds (.exc C fs)) : SemX K W (tCallSD (spO K R) [] (WE W) u) ρ C fs := fun G0 B0 σ G H S Q q =>
  h _ _ _ _ _ S _ fun xs G1 H1 g1 rs => ⟨G1, ds, g1.s, by rw [List.append_nil]; exact rs, .inr (.inl ⟨C, fs, hr, fun dd G2 H2 g2 rv => q dd G2 H2 (g1.trans g2) rv⟩)⟩
theorem sx_asg {g : TG} (h : SemX K W te ρ C fs) (p : P.ex C fs ρ) : SemS K W (tAsg te g) ρ P := fun G0 B0 σ G H D S n r b ct x => h _ _ _ _ _ S _ fun dd G1 H1 g1 hx => x _ _ _ _ _ _ _ p (S.grow g1) hx
theorem sx_drop (h : SemX K W te ρ C fs) (p : P.ex C fs ρ) : SemS K W (tDrop te) ρ P := fun G0 B0 σ G H D S n r b ct x => h _ _ _ _ _ S _ fun dd G1 H1 g1 hx => x _ _ _ _ _ _ _ p (S.grow g1) hx
theorem sx_ret (h : SemX K W te ρ C fs) (p : P.ex C fs ρ) : SemS K W (tRet te) ρ P := fun G0 B0 σ G H D S n r b ct x => h _ _ _ _ _ S _ fun dd G1 H1 g1 hx => x _ _ _ _ _ _ _ p (S.grow g1) hx
/-! raise -/
/-- raise X(..): t makes the exception -/
def tRaisE (t : L2.St → Hp → XK → Prop) (W : WX) : TS := fun _ σ H => t σ H fun cls d H' => W cls d σ H'
/-- X('..'), X without an __init__ of its own -/
def tMk0 (C : Addr) : L2.St → Hp → XK → Prop := fun _ H Q => Q (.ref C) none H
theorem sr_own (p : P.ex C [] ρ) : SemS K W (tRaisE (tMk0 C) W) ρ P := fun G0 B0 σ G H D S n r b ct x => x _ _ _ _ _ _ _ p S .no
/-- the promise of an exception's __init__: fl tells the fields of what is handed in -/
def spIni (K : PySem.W.Frag) (C : Addr) (ok : List V → Prop) (fl : List V → List (Str × V)) : Sp := fun vs H Q _ => ∃ a ws, vs = .ref a :: ws ∧ ok ws ∧ H a = some (exo a C none) ∧
  ∀ d, H d = none → d ≠ a → Q .non (upd (upd H d (exd d (fl ws))) a (exo a C (some d)))
/-- the fields by data: the names in order, the data -/
theorem sr_ini {ta : TA} {ok : List V → Prop} {fl : List V → List (Str × V)} {ds : List Dat} (h : SemA K ta ρ ds) (hl : ds.length ≤ 900) (hok : ∀ G vs, DRs K G vs ds → ok vs) (hfl : ∀ G vs, DRs K G vs ds → DRf K G (fl vs) fs) (p : P.ex C fs ρ) :
    SemS K W (tRaisE (tMkO C (spIni K C ok fl) [] ta) W) ρ P := fun G0 B0 σ G H D S n r b ct x =>
  h _ _ _ _ _ S _ fun vs G1 H1 g1 rs => by
    have S1 := S.grow g1
    refine ⟨by rw [rs.length]; omega, fun a0 ha0 => ?_⟩
    rw [List.append_nil]
    refine ⟨a0, vs, rfl, hok _ _ rs, upd_same, fun d hd hda => ?_⟩
    have hd1 : H1 d = none := by rw [upd_ne hda] at hd; exact hd
    refine ⟨rfl, d, fl vs, upd_same, ?_, hd1, ?_⟩
    · rw [upd_ne hda, upd_same]
    · have e : upd (del (upd (upd (upd H1 a0 (exo a0 C none)) d (exd d (fl vs))) a0 (exo a0 C (some d))) a0) d (.xd (fl vs)) = upd H1 d (.xd (fl vs)) := by
        funext z
        by_cases z1 : z = d
        · subst z1; rw [upd_same, upd_same]
        · rw [upd_ne z1, upd_ne z1]
          by_cases z2 : z = a0
          · subst z2; rw [del_same]; exact ha0.symm
          · rw [del_ne z2, upd_ne z2, upd_ne z1, upd_ne z2]
      rw [e]
      have gn : Grow G1 H1 (upd G1 d (.xd (fl vs))) (upd H1 d (.xd (fl vs))) := Grow.new g1.s hd1
      exact x _ _ _ _ _ _ _ p (S1.grow gn) (.fs upd_same (hfl _ _ (rs.mono gn.g)))
/-! try -/
theorem ss_try {cv : Value} {i : Nat} {tb : WX → TS} {ts : TS} (hb : ∀ W', SemS K W' (tb W') ρ { P with ex := fun C fs ρ' =>
      (PySem.W.exmOne K (.ref C) cv = some true ∧ SemS K (fun _ _ _ _ => False) ts (ρ'.set i (.dat (.exc C fs))) { nx := fun ρ2 => P.nx (ρ2.set i .no), rt := P.rt, rn := P.rn, rm := P.rm, bk := fun ρ2 => P.bk (ρ2.set i .no), ct := fun ρ2 => P.ct (ρ2.set i .no) }) ∨
      (PySem.W.exmOne K (.ref C) cv = some false ∧ P.ex C fs ρ') }) : SemS K W (tTry K cv i tb ts W) ρ P := fun G0 B0 σ G H D S n r b ct x => by
  refine hb _ G0 B0 σ G H D S n r b ct fun C fs dd ρ' σ' G' H' hp S' hx => ?_
  rcases hp with ⟨he, hs⟩ | ⟨he, hp⟩
  · refine ⟨true, he, fun _ a0 ha0 => ?_, fun z => by cases z⟩
    have gn : Grow G' H' (upd G' a0 (exv a0 (.ref C) dd)) (upd H' a0 (exv a0 (.ref C) dd)) := Grow.new S'.gr.s ha0
    have rd : DR K (upd G' a0 (exv a0 (.ref C) dd)) (.ref a0) (.exc C fs) := by
      cases hx with
      | no => exact .exc0 upd_same
      | fs h1 h2 => exact .exc1 upd_same (gn.g _ _ h1) (h2.mono gn.g)
    exact hs G0 B0 _ _ _ _ ((S'.grow gn).set rd) (fun ρ2 σ2 G2 H2 p S2 => n _ _ _ _ p S2.forget) r (fun ρ2 σ2 G2 H2 p S2 => b _ _ _ _ p S2.forget) (fun ρ2 σ2 G2 H2 p S2 => ct _ _ _ _ p S2.forget) (fun _ _ _ _ _ _ _ h _ _ => h.elim)
  · exact ⟨false, he, (fun z => by cases z), fun _ => x _ _ _ _ _ _ _ hp S' hx⟩
/-! fields, isinstance by data -/
theorem s_fldE {n : Str} (h : Sem K te ρ (.exc C fs)) (T : XfC K C) (hno : PySem.W.findIn K (.ref C) n = some none) (hl : fs.lookup n = some d) : Sem K (tAt K n te) ρ d := fun G0 B0 σ G H S Q q =>
  h _ _ _ _ _ S _ fun x G1 H1 g1 rx => by
    cases rx with
    | exc0 h0 => cases hl
    | exc1 h1 h2 r =>
      obtain ⟨v, l, rv⟩ := r.lookup hl
      exact .inr ⟨_, _, _, _, v, rfl, g1.s _ _ h1, T, hno, g1.s _ _ h2, l, q _ _ _ g1 rv⟩
theorem s_fldI {n : Str} {gs : List (Str × Dat)} (h : Sem K te ρ (.ins C gs)) (c : Cls K C) (hn : NoAttr K C n) (hl : gs.lookup n = some d) : Sem K (tAt K n te) ρ d := fun G0 B0 σ G H S Q q =>
  h _ _ _ _ _ S _ fun x G1 H1 g1 rx => by
    cases rx with
    | ins h1 r =>
      obtain ⟨v, l, rv⟩ := r.lookup hl
      exact .inl ⟨_, _, _, _, v, rfl, g1.s _ _ h1, c, hn, l, q _ _ _ g1 rv⟩
theorem cs_isiU {n t : String} {k : Bool} (h : tyD d = some t) (hk : kitB t n = some k) : CallS K (uIsi K) [d, .ty n] (.bl k) := fun xs G H e r Q q => .inl (cs_isi h hk xs G H e r Q q)
/-- what isinstance(x, C) must know of the class of x -/
structure InsC (K : PySem.W.Frag) (C : Addr) : Prop where
  cl : Cls K C
  ha : PySem.W.findIn K (.ref C) "__class__" = some (some (.builtin "object.__class__"))
  hn : PySem.W.specialIn K (.builtin "object.__class__") "__get__" = some (some (.builtin "getset_descriptor.__get__"))
  ht : PySem.W.takesIn K (.builtin "object.__class__") = some true
  hm : PySem.W.mroIn K C (.type "object") = some true
theorem cs_isiE {cc : Dat} {cv : V} {u : Value} {k : Bool} (hc : ∀ G x, DR K G x cc → x = cv) (hu : ClsV cv u) (T : ExcC K C) (hk : PySem.W.kitOne K (.ref C) u = some k) : CallS K (uIsi K) [.exc C fs, cc] (.bl k) := fun xs G H e r Q q => by
  cases r with
  | cons h1 r =>
    cases r with
    | cons h2 r =>
      cases r
      have ec := hc _ _ h2
      subst ec
      cases h1 with
      | exc0 h0 => exact .inr (.inl ⟨_, _, _, _, _, k, rfl, hu, e _ _ h0, (fun dd z => by cases z), T, hk, q _ _ _ (Grow.refl e) (.bl k)⟩)
      | exc1 ha hb r => exact .inr (.inl ⟨_, _, _, _, _, k, rfl, hu, e _ _ ha, (fun dd z => by cases z; exact ⟨_, e _ _ hb⟩), T, hk, q _ _ _ (Grow.refl e) (.bl k)⟩)
theorem cs_isiI {gs : List (Str × Dat)} {cc : Dat} {cv : V} {u : Value} {k : Bool} (hc : ∀ G x, DR K G x cc → x = cv) (hu : ClsV cv u) (T : InsC K C) (hk : PySem.W.kitOne K (.ref C) u = some k) : CallS K (uIsi K) [.ins C gs, cc] (.bl k) := fun xs G H e r Q q => by
  cases r with
  | cons h1 r =>
    cases r with
    | cons h2 r =>
      cases r
      have ec := hc _ _ h2
      subst ec
      cases h1 with
      | ins ha r => exact .inl ⟨_, _, _, _, k, rfl, hu, .base (.ins (e _ _ ha) T.cl T.ha T.hn T.ht T.hm), hk, q _ _ _ (Grow.refl e) (.bl k)⟩
/-- a thing of a built-in class, asked for an own one -/
theorem cs_isiB {t : String} {cc : Dat} {cv : V} {u : Value} {k : Bool} (h : tyD d = some t) (hc : ∀ G x, DR K G x cc → x = cv) (hu : ClsV cv u) (hk : PySem.W.kitOne K (.type t) u = some k) : CallS K (uIsi K) [d, cc] (.bl k) := fun xs G H e r Q q => by
  cases r with
  | cons h1 r =>
    cases r with
    | cons h2 r =>
      cases r
      have ec := hc _ _ h2
      subst ec
      exact .inl ⟨_, _, _, _, k, rfl, hu, (h1.mono e).ty' h, hk, q _ _ _ (Grow.refl e) (.bl k)⟩
end
/-! ### defs that may raise -/
def PO : Out → Post
  | .val d => { nx := fun _ => d = .non, rt := fun d' => d' = d }
  | .exc C fs => { nx := fun _ => False, ex := fun C' fs' _ => C' = C ∧ fs' = fs }
  | .mt o => { nx := fun _ => False, rn := fun o' => o' = o }
section
variable {P : Program} {w : World} {K : PySem.W.Frag} {mg : Str → Option Value} {base : Heap}
theorem fn_dx {x qual : Str} {st : Stmt} {f : Addr} {fd : FuncData} {N ps : List Str} {k : Nat} {R : List Dat → Out → Prop} {T : WX → TS} (F : Fun K x qual st f fd) (S : FnScope N ps (defScope st))
    (hlen : ∀ ds o, R ds o → ds.length = ps.length)
    (hp : ∀ (cdv : Value) (A : Around) (outer : List Env) (s : Shared) (H : Hp) (E : XK), Room k (A.deeper (envOfC qual (defScope st) s.heap.objs.size f cdv)) → PSs (cxOf (L2.CX P w) P w K mg base N qual (defScope st) f cdv A outer s H E) (defBody st) (T fun cls d _ H => E cls d H))
    (hs : ∀ W ds o, R ds o → SemS K W (T W) (slots N.length ds) (PO o)) : FnOk P w K mg base (L2.CX P w) (k + 1) f fd ps (spO K R) := by
  refine F.okX S (fun vs H Q E h => ?_) (fun cdv A outer s H vs Q E hr h => ?_)
  · obtain ⟨G, ds, e, r, ⟨d, hR, q⟩ | ⟨C, fs, hR, q⟩ | ⟨es, hR, q⟩⟩ := h
    · rw [r.length]; exact hlen ds _ hR
    · rw [r.length]; exact hlen ds _ hR
    · rw [r.length]; exact hlen ds _ hR
  · obtain ⟨G, ds, e, r, ⟨d, hR, q⟩ | ⟨C, fs, hR, q⟩ | ⟨es, hR, q⟩⟩ := h
    · refine ⟨_, hp cdv A outer s H E hr, hs _ ds _ hR G H _ G H _ (sat_start e r) (fun ρ' σ' G' H' h S' => ?_) ⟨fun d' v G' H' h g rv => ?_, fun _ _ _ _ _ h _ _ _ => h.elim, fun _ _ _ _ _ _ h _ _ => h.elim⟩ (fun _ _ _ _ h _ => h.elim) (fun _ _ _ _ h _ => h.elim) (fun _ _ _ _ _ _ _ h _ _ => h.elim)⟩
      · cases h
        exact q _ _ _ S'.gr .non
      · cases h
        exact q _ _ _ g rv
    · refine ⟨_, hp cdv A outer s H E hr, hs _ ds _ hR G H _ G H _ (sat_start e r) (fun ρ' σ' G' H' h S' => h.elim) ⟨fun d' v G' H' h g rv => h.elim, fun _ _ _ _ _ h _ _ _ => h.elim, fun _ _ _ _ _ _ h _ _ => h.elim⟩ (fun _ _ _ _ h _ => h.elim) (fun _ _ _ _ h _ => h.elim) (fun C' fs' dd ρ' σ' G' H' h S' hx => ?_)⟩
      obtain ⟨rfl, rfl⟩ := h
      exact q _ _ _ S'.gr hx
    · refine ⟨_, hp cdv A outer s H E hr, hs _ ds _ hR G H _ G H _ (sat_start e r) (fun ρ' σ' G' H' h S' => h.elim) ⟨fun d' v G' H' h g rv => h.elim, fun o' v T G' H' h g k1 k2 => ?_, fun _ _ _ _ _ _ h _ _ => h.elim⟩ (fun _ _ _ _ h _ => h.elim) (fun _ _ _ _ h _ => h.elim) (fun _ _ _ _ _ _ _ h _ _ => h.elim)⟩
      cases h
      exact q _ _ _ _ g k1 k2
theorem gx_of {x qual : Str} {st : Stmt} {f : Addr} {fd : FuncData} {N ps : List Str} {k : Nat} {R : List Dat → Out → Prop} {T : WX → TS} (F : Fun K x qual st f fd) (hm : mg x = some (.ref f)) (hb : Binds K fd ps []) (S : FnScope N ps (defScope st))
    (hlen : ∀ ds o, R ds o → ds.length = ps.length)
    (hp : ∀ (cdv : Value) (A : Around) (outer : List Env) (s : Shared) (H : Hp) (E : XK), Room k (A.deeper (envOfC qual (defScope st) s.heap.objs.size f cdv)) → PSs (cxOf (L2.CX P w) P w K mg base N qual (defScope st) f cdv A outer s H E) (defBody st) (T fun cls d _ H => E cls d H))
    (hs : ∀ W ds o, R ds o → SemS K W (T W) (slots N.length ds) (PO o)) : GX P w K mg base (k + 1) x ps (spO K R) :=
  ⟨f, fd, fn_dx F S hlen hp hs, hm, F.kp, hb⟩
end
end DL
namespace DL
open PySem PySem.Spec PyProof.Rows L2
open Evl (Ex ex_l ex_t fresh_back)
/-! ### an exception class with an __init__ of its own, as the defs want it -/
structure XI (P : Program) (w : World) (K : PySem.W.Frag) (mg : Str → Option Value) (base : Heap) (k : Nat) (x : Str) (C : Addr) (sp : Sp) : Prop where
  T : OexC K C
  m : mg x = some (.ref C)
  ex : ∃ fI fd ps, PySem.W.findIn K (.ref C) "__init__" = some (some (.ref fI)) ∧ PySem.W.typeIn K (.ref fI) = some (.type "function") ∧ FnOk P w K mg base CX0 k fI fd ps sp ∧ Binds K fd ps []
theorem pmk_xi {X : Cx} {x : Str} {C : Addr} {k : Nat} {sp : Sp} {e : Expr} {es : List Expr} {ta : TA} {p pos : Pos} (h : XI X.prog X.w X.K X.mg X.base k x C sp) (hr : Room (k + 1) X.A) (hg : Gl X x) (ha : PA X (e :: es) ta)
    (hdb : (x == ("__debug__" : Str)) = false := by decide) (he : starEach (e :: es) X.env = (false, eval e X.env) :: starEach es X.env := by rfl) (hpl : (backTo pos (starEach es X.env)).any (·.1) = false := by rfl) :
    PMk X (.Call (.Name x p) (e :: es) [] pos) (tMkO C sp [] ta) := by
  obtain ⟨fI, fd, ps, iC, tI, F1, hb⟩ := h.ex
  exact pmk_oex h.T iC tI F1 hr hb .nil pass0 hg h.m ha hdb he hpl
/-- GrammarError.__init__(self, msg); self.f = v -/
def tIni1 (K : PySem.W.Frag) (f : Str) (tm : TE) : TS := tSeq (tDrop (tVeI K (tCons (tVar 0) (tCons tm tNil)))) (tOst K f (tVar 0) (tVar 1))
theorem ini1 {K : PySem.W.Frag} {C : Addr} {f : Str} {tm : TE} {ok : List V → Prop} {N : List Str} (T : OexC K C) (hno : PySem.W.findIn K (.ref C) f = some none) (ho : ∀ ws, ok ws → ∃ v, ws = [v])
    (hm : ∀ (σ : L2.St) (H : Hp) (v : V) (Q : VK), ok [v] → σ[1]? = some (some v) → (∀ z, Q z H) → tm σ H Q) (vs : List V) (H : Hp) (Q : VK) (E : XK) (h : spIni K C ok (fun ws => [(f, ws.headD .non)]) vs H Q E) :
    tIni1 K f tm { nx := fun _ H' => Q .non H', rt := Q } (L2.start N vs) H := by
  obtain ⟨a, ws, rfl, hw, ha, q⟩ := h
  obtain ⟨v, rfl⟩ := ho ws hw
  refine ⟨.ref a, rfl, hm _ _ v _ hw rfl fun z => ⟨a, C, [z], rfl, (by show 1 ≤ 1000; decide), T, ha, ?_⟩⟩
  exact ⟨v, rfl, .ref a, rfl, a, C, rfl, T, hno, .inl ⟨ha, fun dx hd hda => q dx hd hda⟩⟩
/-! ### str(..), strip(..), methods with more arguments -/
def uStr : List V → Hp → VK → Prop := fun xs H Q => (∃ i : Int, xs = [.int i] ∧ i.natAbs.log2 < 1920 ∧ Q (.str (toString i)) H) ∨ (∃ a, xs = [.str a] ∧ Q (.str a) H) ∨ (xs = [.non] ∧ Q (.str "None") H)
theorem cu_str {X : Cx} : CallR X (.type "str") uStr := by
  intro pins s σ H xs us Q I r h
  rcases h with h | ⟨a, rfl, q⟩ | ⟨rfl, q⟩
  · exact call_str_int pins s σ H xs us Q I r h
  · obtain ⟨u, rfl, t, rfl⟩ := vals1 r
    exact PySem.P.str_of_str ⟨.str a, H, I, ⟨_, rfl⟩, q⟩
  · obtain ⟨u, rfl, r1⟩ := vals1 r
    cases (show u = Value.none from r1)
    exact PySem.P.str_of_none ⟨.str "None", H, I.tok _, ⟨_, rfl⟩, q⟩
def numT (i : Int) : List Nat := (Str.ofString (toString i)).cps.toList
theorem numT_len {i : Int} (h : i.natAbs.log2 < 1920) : (numT i).length ≤ 1921 := by
  have := int_text_len_1921 h
  simpa [numT, Str.length] using this
def uStripC : V → List V → Hp → VK → Prop := fun x xs H Q => ∃ a b, x = .str a ∧ xs = [.str b] ∧ a.length ≤ sizeLine ∧ Q (.str (Txt.stripChars a b)) H
section
variable {X : Cx} {K : PySem.W.Frag} {o e e1 e2 : Expr} {es : List Expr} {to te : TE} {ta : TA} {apos pos : Pos}
theorem pe_ustrip (ho : PE X o to) (he : PE X e te) (hs : starEach [e] X.env = [(false, eval e X.env)] := by rfl) (hbase : attributeBase o "strip" X.env (eval o X.env) = eval o X.env := by rfl) (hline : (apos.endLine == pos.line) = true := by rfl) :
    PE X (.Call (.Attribute o "strip" apos) [e] [] pos) (tM1 uStripC to te) := pe_m1 F.slot_str_strip F.type_str_strip mt_stripChars ho he hs hbase hline
end
section
variable {K : PySem.W.Frag} {ρ : List Sl} {te : TE} {c : Dat}
theorem cs_strI {i : Int} (h : i.natAbs.log2 < 1920) : CallS K uStr [.int i] (.txt (numT i)) := fun xs G H e r Q q => by
  cases r with
  | cons h1 r =>
    cases r; cases h1
    exact .inl ⟨i, rfl, h, q _ _ _ (Grow.refl e) (.ofStr _)⟩
theorem cs_strT {t : List Nat} : CallS K uStr [.txt t] (.txt t) := fun xs G H e r Q q => by
  cases r with
  | cons h1 r =>
    cases r; cases h1
    exact .inr (.inl ⟨_, rfl, q _ _ _ (Grow.refl e) (.txt _)⟩)
theorem cs_strN : CallS K uStr [.non] (.txt (Str.ofString "None").cps.toList) := fun xs G H e r Q q => by
  cases r with
  | cons h1 r =>
    cases r; cases h1
    exact .inr (.inr ⟨rfl, q _ _ _ (Grow.refl e) (.ofStr _)⟩)
theorem s_bmT {r : V → List V → Hp → VK → Prop} {cs : List Nat} {u : TA} {ds : List Dat} (h : Sem K te ρ (.txt cs)) (h1 : SemA K u ρ ds) (hr : MtS K r (.txt cs) ds c) : Sem K (tBM K "str" r te u) ρ c := fun G0 B0 σ G H S Q q =>
  h _ _ _ _ _ S _ fun x G1 H1 g1 rx => ⟨by cases rx; rfl, h1 _ _ _ _ _ (S.grow g1) _ fun ys G2 H2 g2 ry =>
    hr x ys G2 H2 g2.s (rx.mono g2.g) ry Q fun v G3 H3 g3 rv => q v G3 H3 ((g1.trans g2).trans g3) rv⟩
theorem s_cls {C : Addr} : Sem K (tC (.ref C)) ρ (.cls C) := s_c fun _ => .cls C
theorem ms_strip {a b : List Nat} (h : a.length ≤ sizeLine) : MtS K uStripC (.txt a) [.txt b] (.txt (Txt.stripChars (strL a) (strL b)).cps.toList) := fun x xs G H e rx rs Q q => by
  cases rx
  cases rs with
  | cons h1 r =>
    cases r; cases h1
    exact ⟨_, _, rfl, rfl, by rw [← strL, strL_len]; exact h, q _ _ _ (Grow.refl e) (.ofStr _)⟩
theorem ms_starts3 {a b : List Nat} {i : Int} : MtS K uStarts3 (.txt a) [.txt b, .int i] (.bl (Txt.startswith3 (strL a) (strL b) i)) := fun x xs G H e rx rs Q q => by
  cases rx
  cases rs with
  | cons h1 r =>
    cases r with
    | cons h2 r =>
      cases r; cases h1; cases h2
      exact ⟨_, _, _, rfl, rfl, q _ _ _ (Grow.refl e) (.bl _)⟩
theorem ms_find3 {a b : List Nat} {i : Int} : MtS K uFind3 (.txt a) [.txt b, .int i] (.int (Txt.find3 (strL a) (strL b) i)) := fun x xs G H e rx rs Q q => by
  cases rx
  cases rs with
  | cons h1 r =>
    cases r with
    | cons h2 r =>
      cases r; cases h1; cases h2
      exact ⟨_, _, _, rfl, rfl, q _ _ _ (Grow.refl e) (.int _)⟩
end
end DL
namespace DL
open PySem PySem.Spec PyProof.Rows L2
/-- a try around which nothing is wished -/
theorem ss_tryF {K : PySem.W.Frag} {ρ : List Sl} {W : WX} {P : Post} {cv : Value} {i : Nat} {tb : WX → TS} {ts : TS} (hb : ∀ W', SemS K W' (tb W') ρ { P with ex := fun C fs ρ' =>
      (PySem.W.exmOne K (.ref C) cv = some true ∧ SemS K (fun _ _ _ _ => False) ts (ρ'.set i (.dat (.exc C fs))) { nx := fun ρ2 => P.nx (ρ2.set i .no), rt := P.rt, rn := P.rn, rm := P.rm, bk := fun ρ2 => P.bk (ρ2.set i .no), ct := fun ρ2 => P.ct (ρ2.set i .no) }) ∨ False }) :
    SemS K W (tTry K cv i tb ts (fun _ _ _ _ => False)) ρ P := fun G0 B0 σ G H D S n r b ct x => by
  have h := ss_try (K := K) (W := fun _ _ _ _ => False) (ρ := ρ) (P := { P with ex := fun _ _ _ => False }) (cv := cv) (i := i) (tb := tb) (ts := ts) fun W' => ss_mono (hb W') (fun _ z => z) (fun _ z => z) (fun _ z => z) (fun _ z => z) fun C fs ρ' z => by
    rcases z with z | z
    · exact .inl z
    · exact z.elim
  exact h G0 B0 σ G H D S n r b ct fun _ _ _ _ _ _ _ z _ _ => z.elim
end DL

set_option Elab.async false
set_option linter.all false
set_option maxRecDepth 100000
set_option maxHeartbeats 1000000
/-! DLg: one's own list looked at, zip, enumerate, list(..), tuple(..), max(..) of data -/
namespace DL
open PySem PySem.Spec PyProof.Rows L2
open Evl (Ex ex_l ex_t fresh_back)
open PySem.W (AlikeAll maxD dataLt max_list_data alike alikeAll)
/-! ### one's own list is looked at: what comes of it is no object -/
def scalD : Dat → Bool
  | .non | .bl _ | .int _ | .txt _ | .ty _ => true
  | _ => false
theorem DR.scal {K : PySem.W.Frag} {G G' : Hp} {v : V} {d : Dat} (h : scalD d = true) (r : DR K G v d) : DR K G' v d := by
  cases r with
  | non => exact .non
  | bl b => exact .bl b
  | int i => exact .int i
  | txt cs => exact .txt cs
  | ty n => exact .ty n
  | _ => cases h
section
variable {K : PySem.W.Frag} {ρ : List Sl} {t ta tb tc te : TE} {a b c d : Dat}
theorem s_peekA (hs : scalD d = true) (h : Sem K te (ρ.map frzSl) d) : Sem K te ρ d := fun G0 B0 σ G H S Q q => by
  obtain ⟨G1, S1, hb⟩ := S.peek
  refine h _ _ _ _ _ S1 _ fun v G2 H2 g2 rv => ?_
  obtain ⟨G3, g3, _⟩ := hb G2 H2 g2
  exact q v G3 H2 g3 (rv.scal hs)
theorem st_peekA {tt : TT} {k : Bool} (h : SemT K tt (ρ.map frzSl) k) : SemT K tt ρ k := fun G0 B0 σ G H S Q q => by
  obtain ⟨G1, S1, hb⟩ := S.peek
  refine h _ _ _ _ _ S1 _ fun G2 H2 g2 => ?_
  obtain ⟨G3, g3, _⟩ := hb G2 H2 g2
  exact q G3 H2 g3
/-- what comes of it is a new list of things that are no objects -/
theorem DRs.scal {K : PySem.W.Frag} {G G' : Hp} : ∀ {vs : List V} {ds : List Dat}, (∀ d ∈ ds, scalD d = true) → DRs K G vs ds → DRs K G' vs ds
  | _, _, _, .nil => .nil
  | _, _, h, .cons r rs => .cons (r.scal (h _ List.mem_cons_self)) (DRs.scal (fun d hd => h d (List.mem_cons_of_mem _ hd)) rs)
theorem sn_peekA {ds : List Dat} (hs : ∀ d ∈ ds, scalD d = true) (h : SemN K te (ρ.map frzSl) ds) : SemN K te ρ ds := fun G0 B0 σ G H S Q q => by
  obtain ⟨G1, S1, hb⟩ := S.peek
  refine h _ _ _ _ _ S1 _ fun p vs G2 H2 g2 hp hg h2 rs => ?_
  obtain ⟨G3, g3, h3⟩ := hb G2 H2 g2
  exact q p vs G3 H2 g3 hp (by rw [h3 p hp]; exact hg) h2 (rs.scal hs)
end
/-! ### zip, enumerate -/
theorem pi_zipU {X : Cx} {K : PySem.W.Frag} {e e2 : Expr} {ta : TA} {p pos tpos : Pos} {elts : List Expr} {kk : Nat} (hK : X.K = K) (hg : Gl X "zip") (hm : X.mg "zip" = none) (ha : PA X [e, e2] ta)
    (hs : starEach [e, e2] X.env = (false, eval e X.env) :: starEach [e2] X.env := by rfl) (hpl : (backTo pos (starEach [e2] X.env)).any (·.1) = false := by rfl) :
    PI X (.Tuple elts kk tpos) (.Call (.Name "zip" p) [e, e2] [] pos) (iZip K ta) := by
  subst hK
  exact pi_zip hg hm ha hs hpl
theorem pi_enumU {X : Cx} {K : PySem.W.Frag} {e : Expr} {ta : TA} {p pos tpos : Pos} {elts : List Expr} {kk : Nat} (hK : X.K = K) (hg : Gl X "enumerate") (hm : X.mg "enumerate" = none) (ha : PA X [e] ta) (hs : starEach [e] X.env = [(false, eval e X.env)] := by rfl) :
    PI X (.Tuple elts kk tpos) (.Call (.Name "enumerate" p) [e] [] pos) (iEnum K ta) := by
  subst hK
  exact pi_enum hg hm ha hs
section
variable {K : PySem.W.Frag} {ρ : List Sl} {t ta tb tc te : TE} {a b c d : Dat}
theorem walks_zip {G : Hp} {p q : Addr} {xs ys : List V} {ds es : List Dat} (h : G p = some (.lst xs)) (r : DRs K G xs ds) (h2 : G q = some (.lst ys)) (r2 : DRs K G ys es) : Walks K (Itz K p q) G ((ds.zip es).map fun z => .tup [z.1, z.2]) where
  go := fun i G' H e1 e2 hi => by
    rw [List.length_map, List.length_zip] at hi
    exact ⟨xs, ys, xs[i]'(by rw [r.length]; omega), ys[i]'(by rw [r2.length]; omega), .inl (.inl (e2 _ _ (e1 _ _ h))), .inl (.inl (e2 _ _ (e1 _ _ h2))), List.getElem?_eq_getElem _, List.getElem?_eq_getElem _⟩
  yld := fun i G' H x H' d e1 e2 hd y => by
    obtain ⟨T, u, v, rfl, hT, rfl, hu, hv⟩ := y
    rw [List.getElem?_map] at hd
    cases z : (ds.zip es)[i]? with
    | none => rw [z] at hd; cases hd
    | some w =>
      rw [z] at hd
      cases hd
      obtain ⟨z1, z2⟩ := List.getElem?_zip_eq_some.mp z
      obtain ⟨v1, k1, k2⟩ := r.at z1
      obtain ⟨v2, k3, k4⟩ := r2.at z2
      have a1 := hu xs (.inl (.inl (e2 _ _ (e1 _ _ h))))
      have a2 := hv ys (.inl (.inl (e2 _ _ (e1 _ _ h2))))
      rw [k1] at a1; rw [k3] at a2
      cases a1; cases a2
      have gn : Grow G' H (upd G' T (.tup [u, v])) (upd H T (.tup [u, v])) := Grow.new e2 hT
      exact ⟨_, gn, .tup (.inl (.inl upd_same)) (.cons ((k2.mono e1).mono gn.g) (.cons ((k4.mono e1).mono gn.g) .nil))⟩
  stop := fun i G' H e1 e2 hi => by
    rw [List.length_map, List.length_zip] at hi
    refine ⟨xs, ys, .inl (.inl (e2 _ _ (e1 _ _ h))), .inl (.inl (e2 _ _ (e1 _ _ h2))), ?_⟩
    rw [r.length, r2.length]
    omega
theorem si_zip {u : TA} {ds es : List Dat} (h : SemA K u ρ [.lst ds, .lst es]) : SemI K (iZip K u) ρ ((ds.zip es).map fun z => .tup [z.1, z.2]) := fun G0 B0 σ G H S R q =>
  h _ _ _ _ _ S _ fun xs G1 H1 g1 rs => by
    cases rs with
    | cons h1 rs =>
      cases rs with
      | cons h2 rs =>
        cases rs
        cases h1 with
        | lst a1 r1 =>
          cases h2 with
          | lst a2 r2 => exact ⟨_, _, _, _, rfl, .inl (.inl (g1.s _ _ a1)), .inl (.inl (g1.s _ _ a2)), q _ G1 H1 g1 (walks_zip a1 r1 a2 r2)⟩
theorem walks_enum {G : Hp} {p : Addr} {xs : List V} {ds : List Dat} (h : G p = some (.lst xs)) (r : DRs K G xs ds) : Walks K (Ite K p) G (ds.zipIdx.map fun z => .tup [.int ((z.2 : Nat) : Int), z.1]) where
  go := fun i G' H e1 e2 hi => by
    rw [List.length_map, List.length_zipIdx] at hi
    exact ⟨xs, xs[i]'(by rw [r.length]; omega), .inl (.inl (e2 _ _ (e1 _ _ h))), List.getElem?_eq_getElem _⟩
  yld := fun i G' H x H' d e1 e2 hd y => by
    obtain ⟨T, u, rfl, hT, rfl, hu⟩ := y
    rw [List.getElem?_map, List.getElem?_zipIdx] at hd
    cases z : ds[i]? with
    | none => rw [z] at hd; cases hd
    | some w =>
      rw [z] at hd
      cases hd
      obtain ⟨v1, k1, k2⟩ := r.at z
      have a1 := hu xs (.inl (.inl (e2 _ _ (e1 _ _ h))))
      rw [k1] at a1
      cases a1
      have gn : Grow G' H (upd G' T (.tup [.int (i : Nat), u])) (upd H T (.tup [.int (i : Nat), u])) := Grow.new e2 hT
      have e0 : ((0 + i : Nat) : Int) = ((i : Nat) : Int) := by rw [Nat.zero_add]
      refine ⟨_, gn, .tup (.inl (.inl upd_same)) (.cons ?_ (.cons ((k2.mono e1).mono gn.g) .nil))⟩
      show DR K _ (.int ((i : Nat) : Int)) (.int ((0 + i : Nat) : Int))
      rw [e0]
      exact .int _
  stop := fun i G' H e1 e2 hi => by
    rw [List.length_map, List.length_zipIdx] at hi
    exact ⟨xs, .inl (.inl (e2 _ _ (e1 _ _ h))), by rw [r.length]; exact hi⟩
theorem si_enum {u : TA} {ds : List Dat} (h : SemA K u ρ [.lst ds]) : SemI K (iEnum K u) ρ (ds.zipIdx.map fun z => .tup [.int ((z.2 : Nat) : Int), z.1]) := fun G0 B0 σ G H S R q =>
  h _ _ _ _ _ S _ fun xs G1 H1 g1 rs => by
    cases rs with
    | cons h1 rs =>
      cases rs
      cases h1 with
      | lst a1 r1 => exact ⟨_, _, rfl, .inl (.inl (g1.s _ _ a1)), q _ G1 H1 g1 (walks_enum a1 r1)⟩
end
/-! ### list(..), tuple(..) -/
def uList (K : PySem.W.Frag) : List V → Hp → VK → Prop := fun xs H Q => ∃ p ys, xs = [.ref p] ∧ (SqL K H p ys ∨ SqT K H p ys) ∧ ∀ l, H l = none → Q (.ref l) (upd H l (.lst ys))
def uTuple (K : PySem.W.Frag) : List V → Hp → VK → Prop := fun xs H Q => ∃ p ys, xs = [.ref p] ∧ ((SqL K H p ys ∧ ∀ l, H l = none → Q (.ref l) (upd H l (.tup ys))) ∨ (SqT K H p ys ∧ Q (.ref p) H))
theorem cu_list {X : Cx} {K : PySem.W.Frag} (hK : X.K = K) : CallR X (.type "list") (uList K) := by subst hK; exact call_list_of
theorem cu_tuple {X : Cx} {K : PySem.W.Frag} (hK : X.K = K) : CallR X (.type "tuple") (uTuple K) := by subst hK; exact call_tuple_of
def seqD : Dat → Option (List Dat)
  | .lst ds => some ds
  | .tup ds => some ds
  | .scr ns => some (ns.map .int)
  | _ => none
section
variable {K : PySem.W.Frag} {ρ : List Sl} {t ta tb tc te : TE} {a b c d : Dat}
theorem sn_list {u : TA} {ds : List Dat} (h : SemA K u ρ [d]) (hd : seqD d = some ds) : SemN K (tCB (uList K) u) ρ ds := fun G0 B0 σ G H S Q q =>
  h _ _ _ _ _ S _ fun xs G1 H1 g1 rs => by
    cases rs with
    | cons h1 rs =>
      cases rs
      have fin : ∀ {ys : List V}, DRs K G1 ys ds → ∀ l, H1 l = none → Q (.ref l) (upd H1 l (.lst ys)) := fun {ys} r l hl =>
        q l ys G1 _ (g1.trans (Grow.newM g1.s hl)) (fresh_back g1.h hl) (fresh_back g1.s hl) upd_same r
      cases h1 with
      | lst a1 r => cases hd; exact ⟨_, _, rfl, .inl (.inl (.inl (g1.s _ _ a1))), fin r⟩
      | tup a1 r => cases hd; exact ⟨_, _, rfl, .inr (ex_t g1.s a1), fin r⟩
      | scr a1 => cases hd; exact ⟨_, _, rfl, .inl (ex_l g1.s a1), fin (DRs.ofInts _)⟩
      | _ => cases hd
theorem cs_tuple {ds : List Dat} (hd : seqD d = some ds) : CallS K (uTuple K) [d] (.tup ds) := fun xs G H e r Q q => by
  cases r with
  | cons h1 r =>
    cases r
    have fin : ∀ {ys : List V}, DRs K G ys ds → ∀ l, H l = none → Q (.ref l) (upd H l (.tup ys)) := fun {ys} r l hl => by
      have gn : Grow G H (upd G l (.tup ys)) (upd H l (.tup ys)) := Grow.new e hl
      exact q _ _ _ gn (.tup (.inl (.inl upd_same)) (r.mono gn.g))
    cases h1 with
    | lst a1 r => cases hd; exact ⟨_, _, rfl, .inl ⟨.inl (.inl (e _ _ a1)), fin r⟩⟩
    | tup a1 r => cases hd; exact ⟨_, _, rfl, .inr ⟨ex_t e a1, q _ _ _ (Grow.refl e) (.tup a1 r)⟩⟩
    | scr a1 => cases hd; exact ⟨_, _, rfl, .inl ⟨ex_l e a1, fin (DRs.ofInts _)⟩⟩
    | _ => cases hd
end
/-! ### max(xs) of data -/
theorem DpAll.get {K : PySem.W.Frag} {H : Hp} : ∀ {vs : List V} {ds : List PyData} {i : Nat} {v : V}, DpAll K H vs ds → vs[i]? = some v → ∃ d, ds[i]? = some d ∧ Dp K H v d
  | _, _, _, _, .nil, e => by simp at e
  | _, _, 0, _, .cons h _, e => by simp at e; subst e; exact ⟨_, rfl, h⟩
  | _, _, i + 1, v, .cons _ r, e => by
    obtain ⟨d, h1, h2⟩ := DpAll.get (i := i) (v := v) r (by simpa using e)
    exact ⟨d, by simpa using h1, h2⟩
def uMaxU (K : PySem.W.Frag) : List V → Hp → VK → Prop := fun xs H Q => uMax xs H Q ∨
  ∃ a ys d ds, xs = [.ref a] ∧ SqL K H a ys ∧ DpAll K H ys (d :: ds) ∧ AlikeAll (d :: ds) ∧ PyData.depthAll (d :: ds) ≤ 60 ∧ ∀ (i : Nat) v, ys[i]? = some v → (d :: ds)[i]? = some (maxD d ds) → Q v H
theorem Vals.getU : ∀ {xs : List V} {us : List Value} {i : Nat} {u : Value}, Vals xs us → us[i]? = some u → ∃ x, xs[i]? = some x ∧ RelV x u
  | _, _, _, _, .nil, e => by simp at e
  | _, _, 0, _, .cons h _, e => by simp at e; subst e; exact ⟨_, rfl, h⟩
  | _, _, i + 1, v, .cons _ r, e => by
    obtain ⟨d, h1, h2⟩ := Vals.getU (i := i) (u := v) r (by simpa using e)
    exact ⟨d, by simpa using h1, h2⟩
theorem cu_maxU {X : Cx} {K : PySem.W.Frag} (hK : X.K = K) (hc : X.calm = true) (hu : X.A.units + 64 < cLine) : CallR X (.builtin "max") (uMaxU K) := by
  subst hK
  intro pins s σ H vs us Q I r h
  rcases h with h | ⟨a, ys, d, ds, rfl, hs, hd, ha, hn, q⟩
  · exact cu_max hc pins s σ H vs us Q I r h
  · obtain ⟨its, rv, hl, _⟩ := I.list hs
    rw [Vals.ref1 r]
    obtain ⟨as, rs⟩ := Dp.readsAll I (d :: ds) ys its hd rv
    refine max_list_data (I.ok.hd hc) hl.isList (by rw [List.toList_toArray]; exact rs) ha (by omega) fun i v h' tk bs hi rm hk => ?_
    have hi' : its[i]? = some v := by simpa using hi
    obtain ⟨x, hx, rx⟩ := Vals.getU rv hi'
    obtain ⟨dx, hdx, px⟩ := DpAll.get hd hx
    obtain ⟨cs, rd⟩ := Dp.reads I dx x v px rx
    have e1 := (reads_det (fun b o e _ => hk b o e) rd rm).1
    exact ⟨x, H, I.kept hk, rx, q i x hx (by rw [hdx, e1])⟩
section
variable {K : PySem.W.Frag} {ρ : List Sl} {t ta tb tc te : TE} {a b c d : Dat}
theorem toPys_map : ∀ ds : List Dat, toPys ds = ds.map toPy
  | [] => rfl
  | d :: r => by rw [toPys, toPys_map r]; rfl
theorem cs_max2 {i j : Int} : CallS K (uMaxU K) [.int i, .int j] (.int (max i j)) := fun xs G H e r Q q => .inl (cs_max xs G H e r Q q)
theorem cs_maxD {e : Dat} {es : List Dat} {m : Dat} (hp : plainDs (e :: es) = true) (ha : AlikeAll (toPys (e :: es))) (hd : PyData.depthAll (toPys (e :: es)) ≤ 60)
    (hm : ∀ (i : Nat) d, (e :: es)[i]? = some d → toPy d = maxD (toPy e) (toPys es) → d = m) : CallS K (uMaxU K) [.lst (e :: es)] m := fun xs G H x r Q q => by
  cases r with
  | cons h1 r =>
    cases r
    cases h1 with
    | lst a1 r1 =>
      refine .inr ⟨_, _, toPy e, toPys es, rfl, .inl (.inl (x _ _ a1)), (r1.mono x).dp hp, ha, hd, fun i v hv he => ?_⟩
      obtain ⟨d, k1, k2⟩ := r1.get hv
      have e2 : toPy d = maxD (toPy e) (toPys es) := by
        have z : (toPys (e :: es))[i]? = some (toPy d) := by rw [toPys_map, List.getElem?_map, k1]; rfl
        have z2 : (toPys (e :: es))[i]? = some (maxD (toPy e) (toPys es)) := he
        rw [z] at z2
        exact Option.some.inj z2
      have := hm i d k1 e2
      subst this
      exact q _ _ _ (Grow.refl x) k2
/-- the greatest, where it is told -/
theorem maxD_eq {m : PyData} : ∀ (xs : List PyData) (x : PyData), m ∈ x :: xs → (∀ y ∈ x :: xs, dataLt m y = false) → (∀ y ∈ x :: xs, y = m ∨ dataLt y m = true) → maxD x xs = m
  | [], x, hx, _, _ => by
    rcases List.mem_cons.mp hx with h | h
    · exact h.symm
    · cases h
  | y :: r, x, hx, h1, h2 => by
    show maxD (if dataLt x y = true then y else x) r = m
    have hr : ∀ z ∈ r, z ∈ x :: y :: r := fun z hz => List.mem_cons_of_mem _ (List.mem_cons_of_mem _ hz)
    have hacc : (if dataLt x y = true then y else x) = x ∨ (if dataLt x y = true then y else x) = y := by split <;> simp
    refine maxD_eq r _ ?_ (fun z hz => ?_) (fun z hz => ?_)
    · rcases List.mem_cons.mp hx with e | hx
      · subst e
        rw [if_neg (by rw [h1 y (by simp)]; simp)]
        exact List.mem_cons_self
      · rcases List.mem_cons.mp hx with e | hx
        · subst e
          rcases h2 x (by simp) with e | e
          · subst e
            split <;> exact List.mem_cons_self
          · rw [if_pos e]; exact List.mem_cons_self
        · exact List.mem_cons_of_mem _ hx
    · rcases List.mem_cons.mp hz with e | hz
      · subst e
        rcases hacc with e | e <;> rw [e] <;> exact h1 _ (by simp)
      · exact h1 z (hr z hz)
    · rcases List.mem_cons.mp hz with e | hz
      · subst e
        rcases hacc with e | e <;> rw [e] <;> exact h2 _ (by simp)
      · exact h2 z (hr z hz)
end
end DL

set_option Elab.async false
set_option linter.all false
set_option maxRecDepth 100000
set_option maxHeartbeats 1000000
/-! DLh: own classes: made, their methods, fields that are set; exceptions without an __init__ of their own -/
namespace DL
open PySem PySem.Spec PyProof.Rows L2
open Evl (Ex ex_l ex_t fresh_back)
/-! ### exceptions without an __init__ -/
structure X0 (K : PySem.W.Frag) (mg : Str → Option Value) (x : Str) (C : Addr) : Prop where
  q : PySem.W.excIn K C [.type "ValueError", .type "Exception", .type "BaseException", .type "object"] "ValueError.__new__" = true
  m : mg x = some (.ref C)
  k : PySem.W.keepIn K (.ref C) = true
  s : PySem.W.subIn K (.ref C) (.type "BaseException") = some true
  t : PySem.W.typeIn K (.ref C) = some (.type "type")
theorem pmk_x0 {X : Cx} {x m : Str} {C : Addr} {j : Nat} {p p2 pos : Pos} (h : X0 X.K X.mg x C) (hg : Gl X x) (hdb : (x == ("__debug__" : Str)) = false := by decide) : PMk X (.Call (.Name x p) [.Constant (.str m) j p2] [] pos) (tMk0 C) :=
  pmk_own PySem.F.excBase_ValueError h.q h.m h.k (raises_own h.s h.t) hg hdb
/-! ### methods -/
structure MD (P : Program) (w : World) (K : PySem.W.Frag) (mg : Str → Option Value) (base : Heap) (k : Nat) (m : Str) (C : Addr) (sp : Sp) : Prop where
  c : Cls K C
  ex : ∃ f fd ps, Meth K C m f ∧ FnOk P w K mg base (L2.CX P w) k f fd ps sp ∧ Binds K fd ps []
abbrev MDs (P : Program) (w : World) (K : PySem.W.Frag) (mg : Str → Option Value) (base : Heap) (k : Nat) (m : Str) (ms : List (Addr × Sp)) : Prop := ∀ e ∈ ms, MD P w K mg base k m e.1 e.2
theorem MD.mono {P : Program} {w : World} {K : PySem.W.Frag} {mg : Str → Option Value} {base : Heap} {j k : Nat} {m : Str} {C : Addr} {sp : Sp} (h : MD P w K mg base j m C sp) (hj : j ≤ k) : MD P w K mg base k m C sp := by
  obtain ⟨f, fd, ps, a, F, b⟩ := h.ex
  exact ⟨h.c, f, fd, ps, a, F.mono hj, b⟩
theorem mds_nil {P : Program} {w : World} {K : PySem.W.Frag} {mg : Str → Option Value} {base : Heap} {k : Nat} {m : Str} : MDs P w K mg base k m [] := fun e h => by cases h
theorem mds_cons {P : Program} {w : World} {K : PySem.W.Frag} {mg : Str → Option Value} {base : Heap} {k : Nat} {m : Str} {C : Addr} {sp : Sp} {ms : List (Addr × Sp)} (h : MD P w K mg base k m C sp) (r : MDs P w K mg base k m ms) : MDs P w K mg base k m ((C, sp) :: ms) := fun e he => by
  rcases List.mem_cons.mp he with z | z
  · subst z; exact h
  · exact r e z
/-- o.m(..), o an instance of one of the classes -/
def tMu (ms : List (Addr × Sp)) (m : Str) (E : L2.St → XK) (to : TE) (ta : TA) : TE := fun σ H Q => to σ H fun x H1 => ∃ a C dx fs sp, x = .ref a ∧ H1 a = some (.ins C dx fs) ∧ (C, sp) ∈ ms ∧ fs.lookup m = none ∧ ta σ H1 fun vs H2 => sp (x :: vs) H2 Q (E σ)
theorem passL0 {X : Cx} (σ : L2.St) : PassesAt (L2.CX X.prog X.w) X σ E0 := fun pins H s e s' I h => passL pins σ H s e s' I h
section
variable {X : Cx} {k : Nat} {x m : Str} {p pos apos : Pos} {e o : Expr} {es : List Expr} {to : TE} {t : TA} {ms : List (Addr × Sp)} {E : L2.St → XK}
theorem pe_mu {pl : PySem.Sem Bool} (h : MDs X.prog X.w X.K X.mg X.base k m ms) (hx : ∀ σ, PassesAt (L2.CX X.prog X.w) X σ (E σ)) (hr : Room k X.A) (he : PE X o to) (ha : PA X (e :: es) t)
    (hst : starEach (e :: es) X.env = (false, eval e X.env) :: starEach es X.env := by rfl) (hpl : (backTo pos (starEach es X.env)).any (·.1) = false := by rfl)
    (ht : eval (.Call (.Attribute o m apos) (e :: es) [] pos) X.env = (do
      let ov ← eval o X.env
      standAt apos.atName
      let (f, first) ← holding [ov] (getMethod ov m pl)
      callWith pos f first (backTo pos (starEach (e :: es) X.env)) (backToKw pos (keywordEach [] X.env))) := by rfl) :
    PE X (.Call (.Attribute o m apos) (e :: es) [] pos) (tMu ms m E to t) := by
  refine ⟨fun pins s σ H Q I hw => ?_⟩
  refine PySem.W.methodCall_KW (pl := pl) (thn (he.run pins s σ H _ I hw) fun u s1 ⟨x, H1, I1, rx, a, C, dx, fs, sp, ex, ea, hm, l, q⟩ => ?_) ht
  subst ex
  obtain rfl : u = Value.ref a := rx
  have D := h _ hm
  obtain ⟨f, fd, ps, M, F, hb⟩ := D.ex
  refine getmeth_ok I1 ea D.c M l ?_
  refine PySem.W.callWith_K (first := [.ref a]) (h₀ := X.base) I.ok.mod.kin M.kp (thn (ha.run pos pins s1 σ H1 _ I1 q) fun us s2 ⟨vs, H2, I2, r, q2⟩ => ⟨I2.kIn, ?_⟩) hst hpl
  exact run_fnS (us := .ref a :: us) (vs := .ref a :: vs) F hr hb (hx σ) I2 (.cons rfl r) q2
theorem pe_mu0 {pl : PySem.Sem Bool} (h : MDs X.prog X.w X.K X.mg X.base k m ms) (hx : ∀ σ, PassesAt (L2.CX X.prog X.w) X σ (E σ)) (hr : Room k X.A) (he : PE X o to)
    (ht : eval (.Call (.Attribute o m apos) [] [] pos) X.env = (do
      let ov ← eval o X.env
      standAt apos.atName
      let (f, first) ← holding [ov] (getMethod ov m pl)
      callWith pos f first (backTo pos (starEach [] X.env)) (backToKw pos (keywordEach [] X.env))) := by rfl) :
    PE X (.Call (.Attribute o m apos) [] [] pos) (tMu ms m E to tNil) := by
  refine ⟨fun pins s σ H Q I hw => ?_⟩
  refine PySem.W.methodCall_KW (pl := pl) (thn (he.run pins s σ H _ I hw) fun u s1 ⟨x, H1, I1, rx, a, C, dx, fs, sp, ex, ea, hm, l, q⟩ => ?_) ht
  subst ex
  obtain rfl : u = Value.ref a := rx
  have D := h _ hm
  obtain ⟨f, fd, ps, M, F, hb⟩ := D.ex
  refine getmeth_ok I1 ea D.c M l ?_
  exact PySem.W.callWith_K0 (first := [.ref a]) I1.kIn M.kp (run_fnS (us := [.ref a]) (vs := [.ref a]) F hr hb (hx σ) I1 (.cons rfl .nil) q)
end
/-! ### classes that are made -/
structure CD (P : Program) (w : World) (K : PySem.W.Frag) (mg : Str → Option Value) (base : Heap) (k : Nat) (x : Str) (C : Addr) (dvs : List V) (sp : Sp) : Prop where
  m : mg x = some (.ref C)
  ex : ∃ f fd ps ds, Mk K C f ∧ FnOk P w K mg base (L2.CX P w) k f fd ps sp ∧ Binds K fd ps ds ∧ Vals dvs ds
theorem CD.mono {P : Program} {w : World} {K : PySem.W.Frag} {mg : Str → Option Value} {base : Heap} {j k : Nat} {x : Str} {C : Addr} {dvs : List V} {sp : Sp} (h : CD P w K mg base j x C dvs sp) (hj : j ≤ k) : CD P w K mg base k x C dvs sp := by
  obtain ⟨f, fd, ps, ds, a, F, b⟩ := h.ex
  exact ⟨h.m, f, fd, ps, ds, a, F.mono hj, b⟩
def tMkU (C : Addr) (sp : Sp) (dvs : List V) (E : L2.St → XK) (t : TA) : TE := fun σ H Q => t σ H fun vs H1 => ∀ x dx, H1 x = none → H1 dx = none → dx ≠ x →
  sp (.ref x :: (vs ++ dvs)) (upd (upd H1 dx (.own x)) x (.ins C dx [])) (fun v H2 => v = .non ∧ Q (.ref x) H2) (E σ)
section
variable {X : Cx} {CX : CXT} {k : Nat} {f C : Addr} {fd : FuncData} {ps : List Str} {sp : Sp} {dvs : List V} {ds : List Value} {E : XK} {x m : Str} {p pos apos : Pos} {e o : Expr} {es : List Expr} {ta : TE} {t : TA}
theorem run_makeAt {pins : List (Addr × Obj)} {σ : L2.St} {H : Hp} {s : Shared} {Q : VK} {us : List Value} {vs : List V} (M : Mk X.K C f) (F : FnOk X.prog X.w X.K X.mg X.base CX k f fd ps sp) (hr : Room (k + 1) X.A) (hb : Binds X.K fd ps ds) (hd : Vals dvs ds)
    (hx : PassesAt CX X σ E) (I : Inv X pins σ H s) (r : Vals vs us)
    (h : ∀ x dx, H x = none → H dx = none → dx ≠ x → sp (.ref x :: (vs ++ dvs)) (upd (upd H dx (.own x)) x (.ins C dx [])) (fun v H2 => v = .non ∧ Q (.ref x) H2) E) :
    wpAny (model X.prog X.w) X.A (call (.ref C) us) (EP X pins σ Q) X.xe s := by
  have hq := h (s.heap.objs.size + 1) s.heap.objs.size (I.hok.fresh (Nat.le_succ _)) (I.hok.fresh (Nat.le_refl _)) (Nat.ne_of_lt (Nat.lt_succ_self _))
  have I2 := Inv.made (C := C) I
  have r2 : Vals (V.ref (s.heap.objs.size + 1) :: (vs ++ dvs)) (Value.ref (s.heap.objs.size + 1) :: (us ++ ds)) := .cons rfl (r.append hd)
  have hl : (Value.ref (s.heap.objs.size + 1) :: us ++ ds).length = ps.length := by
    have e := r2.length
    rw [F.len _ _ _ _ hq] at e
    exact e.symm
  refine wpAny_call (make_map (f := f) I.kIn M.makes M.init (beq_iff_eq.mp M.fn) (codeAny_mono (F.run _ X.stack _ _ ⟨Value.ref (s.heap.objs.size + 1) :: us, []⟩ (Value.ref (s.heap.objs.size + 1) :: (us ++ ds)) _ _ E (hr.make C us [])
    (I2.env0.make C us []) (hb _ (Value.ref (s.heap.objs.size + 1) :: us) I2.kIn hl) r2 hq) fun r s' hq' => ?_))
  cases r with
  | error e => exact hx pins _ _ e s' I2 hq'
  | ok fl =>
    cases fl with
    | ret u =>
      obtain ⟨v, H', I3, rv, ev, q3⟩ := I2.after hq'
      subst ev
      exact ⟨rv, ⟨V.ref (s.heap.objs.size + 1), H', I3, rfl, q3⟩⟩
    | next => exact False.elim hq'
    | brk => exact False.elim hq'
    | cont => exact False.elim hq'
theorem pe_mkU {E : L2.St → XK} (h : CD X.prog X.w X.K X.mg X.base k x C dvs sp) (hx : ∀ σ, PassesAt (L2.CX X.prog X.w) X σ (E σ)) (hr : Room (k + 1) X.A) (hg : Gl X x) (hkp : PySem.W.keepIn X.K (.ref C) = true)
    (ha : PA X (e :: es) t) (hdb : (x == ("__debug__" : Str)) = false := by decide) (he : starEach (e :: es) X.env = (false, eval e X.env) :: starEach es X.env := by rfl) (hpl : (backTo pos (starEach es X.env)).any (·.1) = false := by rfl) :
    PE X (.Call (.Name x p) (e :: es) [] pos) (tMkU C sp dvs E t) := by
  obtain ⟨f, fd, ps, ds, M, F, hb, hd⟩ := h.ex
  refine ⟨fun pins s σ H Q I hw => ?_⟩
  refine wpAny_Call_Name_kw (ld_glob I hg h.m ?_ hdb)
  refine PySem.W.callWith_K (h₀ := X.base) I.ok.mod.kin hkp (thn (ha.run pos pins s σ H _ I hw) fun us s1 ⟨vs, H1, I1, r, q⟩ => ⟨I1.kIn, ?_⟩) he hpl
  exact run_makeAt M F hr hb hd (hx σ) I1 r q
end
/-! ### by data -/
section
variable {K : PySem.W.Frag} {ρ : List Sl} {t ta tb tc te : TE} {a b c d : Dat} {W : WX} {P : Post} {C : Addr} {fs : List (Str × Dat)}
theorem s_mu {ms : List (Addr × Sp)} {m : Str} {E : L2.St → XK} {u : TA} {ds : List Dat} {R : List Dat → Out → Prop} (ho : Sem K te ρ (.ins C fs)) (ha : SemA K u ρ ds) (hm : (C, spO K R) ∈ ms) (hl : fs.lookup m = none) (hr : R (.ins C fs :: ds) (.val c)) : Sem K (tMu ms m E te u) ρ c := fun G0 B0 σ G H S Q q =>
  ho _ _ _ _ _ S _ fun x G1 H1 g1 rx => by
    cases rx with
    | ins h1 r => exact ⟨_, _, _, _, _, rfl, g1.s _ _ h1, hm, r.none hl, ha _ _ _ _ _ (S.grow g1) _ fun ys G2 H2 g2 ry =>
        ⟨G2, _, g2.s, .cons (.ins (g2.g _ _ h1) (r.mono g2.g)) ry, .inl ⟨c, hr, fun v G3 H3 g3 rv => q v G3 H3 ((g1.trans g2).trans g3) rv⟩⟩⟩
theorem sm_mu {ms : List (Addr × Sp)} {m : Str} {E : L2.St → XK} {u : TA} {ds : List Dat} {o : OD} {R : List Dat → Out → Prop} (ho : Sem K te ρ (.ins C fs)) (ha : SemA K u ρ ds) (hm : (C, spO K R) ∈ ms) (hl : fs.lookup m = none) (hr : R (.ins C fs :: ds) (.mt o)) : SemM K (tMu ms m E te u) ρ o := fun G0 B0 σ G H S Q q =>
  ho _ _ _ _ _ S _ fun x G1 H1 g1 rx => by
    cases rx with
    | ins h1 r => exact ⟨_, _, _, _, _, rfl, g1.s _ _ h1, hm, r.none hl, ha _ _ _ _ _ (S.grow g1) _ fun ys G2 H2 g2 ry =>
        ⟨G2, _, g2.s, .cons (.ins (g2.g _ _ h1) (r.mono g2.g)) ry, .inr (.inr ⟨o, hr, fun v T G3 H3 g3 rv hT => q v T G3 H3 ((g1.trans g2).trans g3) rv fun a ha => ⟨fresh_back (g1.trans g2).h (hT a ha).1, (hT a ha).2⟩⟩)⟩⟩
theorem sx_mu {ms : List (Addr × Sp)} {m : Str} {u : TA} {ds : List Dat} {D : Addr} {gs : List (Str × Dat)} {R : List Dat → Out → Prop} (ho : Sem K te ρ (.ins C fs)) (ha : SemA K u ρ ds) (hm : (C, spO K R) ∈ ms) (hl : fs.lookup m = none) (hr : R (.ins C fs :: ds) (.exc D gs)) : SemX K W (tMu ms m (WE W) te u) ρ D gs := fun G0 B0 σ G H S Q q =>
  ho _ _ _ _ _ S _ fun x G1 H1 g1 rx => by
    cases rx with
    | ins h1 r => exact ⟨_, _, _, _, _, rfl, g1.s _ _ h1, hm, r.none hl, ha _ _ _ _ _ (S.grow g1) _ fun ys G2 H2 g2 ry =>
        ⟨G2, _, g2.s, .cons (.ins (g2.g _ _ h1) (r.mono g2.g)) ry, .inr (.inl ⟨D, gs, hr, fun dd G3 H3 g3 rv => q dd G3 H3 ((g1.trans g2).trans g3) rv⟩)⟩⟩
/-- the promise of an __init__ -/
def spInit (K : PySem.W.Frag) (C : Addr) (R : List Dat → Out → Prop) : Sp := fun vs H Q E => ∃ G H1 a dx ws ds, vs = .ref a :: ws ∧ H = upd (upd H1 dx (.own a)) a (.ins C dx []) ∧ H1 a = none ∧ H1 dx = none ∧ dx ≠ a ∧ Ex G H1 ∧ DRs K G ws ds ∧
  ((∃ o, R ds (.mt o) ∧ ∀ T G' H', Grow G H1 G' H' → OR K G' H' (.ref a) o T → (∀ b ∈ T, H1 b = none ∧ G' b = none) → Q .non H') ∨ (∃ D fs, R ds (.exc D fs) ∧ ∀ dd G' H', Grow G H1 G' H' → DX K G' dd fs → E (.ref D) dd H'))
theorem sm_mk {u : TA} {ds es : List Dat} {dvs : List V} {E : L2.St → XK} {o : OD} {R : List Dat → Out → Prop} (h : SemA K u ρ ds) (hd : ∀ G, DRs K G dvs es) (hr : R (ds ++ es) (.mt o)) : SemM K (tMkU C (spInit K C R) dvs E u) ρ o := fun G0 B0 σ G H S Q q =>
  h _ _ _ _ _ S _ fun xs G1 H1 g1 rs x dx hx hdx hne => ⟨G1, H1, x, dx, _, _, rfl, rfl, hx, hdx, hne, g1.s, rs.append (hd G1), .inl ⟨o, hr, fun T G2 H2 g2 r hT => ⟨rfl, q _ T G2 H2 (g1.trans g2) r fun b hb => ⟨fresh_back g1.h (hT b hb).1, (hT b hb).2⟩⟩⟩⟩
theorem sx_mk {u : TA} {ds es : List Dat} {dvs : List V} {D : Addr} {gs : List (Str × Dat)} {R : List Dat → Out → Prop} (h : SemA K u ρ ds) (hd : ∀ G, DRs K G dvs es) (hr : R (ds ++ es) (.exc D gs)) : SemX K W (tMkU C (spInit K C R) dvs (WE W) u) ρ D gs := fun G0 B0 σ G H S Q q =>
  h _ _ _ _ _ S _ fun xs G1 H1 g1 rs x dx hx hdx hne => ⟨G1, H1, x, dx, _, _, rfl, rfl, hx, hdx, hne, g1.s, rs.append (hd G1), .inr ⟨D, gs, hr, fun dd G2 H2 g2 r => q dd G2 H2 (g1.trans g2) r⟩⟩
/-! fields that are set -/
def putO (f : Str) (o : OD) : List (Str × OD) → List (Str × OD)
  | [] => [(f, o)]
  | (g, x) :: r => if g = f then (g, o) :: r else (g, x) :: putO f o r
theorem ORf.put {G H : Hp} {f : Str} {v : V} {o : OD} {T : List Addr} (h : OR K G H v o T) : ∀ {vs : List (Str × V)} {os : List (Str × OD)} {S : List Addr}, ORf K G H vs os S → (∀ a ∈ S, a ∉ T) → ∃ S', ORf K G H (putF f v vs) (putO f o os) S' ∧ ∀ a ∈ S', a ∈ S ∨ a ∈ T
  | _, _, _, .nil, _ => ⟨T ++ [], .cons h .nil (fun a _ z => by cases z), fun a ha => by rw [List.append_nil] at ha; exact .inr ha⟩
  | _, _, _, @ORf.cons _ _ _ x v' vs o' os S1 S2 h1 r n, hd => by
    by_cases q : x = f
    · refine ⟨T ++ S2, ?_, fun a ha => ?_⟩
      · show ORf K G H (if x = f then (x, v) :: vs else (x, v') :: putF f v vs) (if x = f then (x, o) :: os else (x, o') :: putO f o os) (T ++ S2)
        rw [if_pos q, if_pos q]
        exact .cons h r fun a ha hb => hd a (List.mem_append_right _ hb) ha
      · rcases List.mem_append.mp ha with z | z
        · exact .inr z
        · exact .inl (List.mem_append_right _ z)
    · obtain ⟨S', k1, k2⟩ := ORf.put h r fun a ha => hd a (List.mem_append_right _ ha)
      refine ⟨S1 ++ S', ?_, fun a ha => ?_⟩
      · show ORf K G H (if x = f then (x, v) :: vs else (x, v') :: putF f v vs) (if x = f then (x, o) :: os else (x, o') :: putO f o os) (S1 ++ S')
        rw [if_neg q, if_neg q]
        refine .cons h1 k1 fun a ha hb => ?_
        rcases k2 a hb with z | z
        · exact n a ha z
        · exact hd a (List.mem_append_left _ ha) z
      · rcases List.mem_append.mp ha with z | z
        · exact .inl (List.mem_append_left _ z)
        · rcases k2 a z with z | z
          · exact .inl (List.mem_append_right _ z)
          · exact .inr z
theorem ORf.length : ∀ {G H : Hp} {vs : List (Str × V)} {os : List (Str × OD)} {S : List Addr}, ORf K G H vs os S → vs.length = os.length
  | _, _, _, _, _, .nil => rfl
  | _, _, _, _, _, .cons _ r _ => by rw [List.length_cons, List.length_cons, ORf.length r]
/-- self.f = a new thing, or a datum -/
theorem ss_fld {i : Nat} {a0 : Addr} {f : Str} {o : OD} {os : List (Str × OD)} (hi : ρ[i]? = some (.mt (.me a0 (.ins C os)))) (h : SemM K te ρ o) (cl : Cls K C) (hn : NoAttr K C f) (hl : os.length < 1000) (p : P.nx (ρ.set i (.mt (.me a0 (.ins C (putO f o os)))))) : SemS K W (sFld K (tVar i) te f) ρ P := fun G0 B0 σ G H D S n r b ct x =>
  h _ _ _ _ _ S _ fun v T G1 H1 g1 rv hT => by
    obtain ⟨w0, T0, k1, k2, k3, k4⟩ := S.at hi
    cases k2 with
    | me k2 =>
      cases k2 with
      | @ins _ _ dx vs _ S0 m1 m2 m3 =>
        have dj : ∀ a ∈ S0, a ∉ T := fun a ha hb => m2.there a ha (hT a hb).1
        have m2' : ORf K G1 H1 vs os S0 := m2.keep g1.g fun a _ u hu => g1.h a u hu
        obtain ⟨S', q1, q2⟩ := ORf.put (f := f) rv m2' dj
        have na : a0 ∉ S' := fun z => by
          rcases q2 a0 z with z | z
          · exact m3 z
          · rw [(hT a0 z).1] at m1; cases m1
        have g0 : G1 a0 = none := g1.m a0 (k3 a0 List.mem_cons_self).1 (by rw [m1]; simp)
        refine ⟨.ref a0, k1, a0, C, dx, vs, rfl, g1.h _ _ m1, cl, hn, by rw [m2.length]; exact hl, n _ _ _ _ p (k4 _ G1 _ (a0 :: S') ⟨g1.g, g1.s.mut g0, fun a u ha hu => ?_, fun a z1 z2 _ => g1.m a z1 z2, fun a ha => ?_⟩ (.me (.ins upd_same (q1.keep (Evl.Ex.refl _) fun a ha u hu => ?_) na)))⟩
        · rw [upd_ne (fun z => ha (by rw [z]; exact List.mem_cons_self))]
          exact g1.h a u hu
        · rcases List.mem_cons.mp ha with z | z
          · rw [z]; exact ⟨.inl List.mem_cons_self, g0⟩
          · rcases q2 a z with z | z
            · exact ⟨.inl (List.mem_cons_of_mem _ z), g1.m a (k3 a (List.mem_cons_of_mem _ z)).1 (m2.there a z)⟩
            · exact ⟨.inr (hT a z).1, (hT a z).2⟩
        · rw [upd_ne (fun z => na (by rw [← z]; exact ha))]
          exact hu
/-- self.f, a datum -/
theorem ORf.datAt {G H : Hp} {f : Str} : ∀ {vs : List (Str × V)} {os : List (Str × OD)} {S : List Addr}, ORf K G H vs os S → os.lookup f = some (.dat d) → ∃ v, vs.lookup f = some v ∧ DR K G v d
  | _, _, _, .nil, e => by simp at e
  | _, _, _, @ORf.cons _ _ _ x v' vs o' os S1 S2 h1 r n, e => by
    rw [List.lookup_cons] at e ⊢
    cases q : (f == x) with
    | true =>
      rw [q] at e
      cases e
      cases h1 with
      | dat h => exact ⟨v', rfl, h⟩
    | false => rw [q] at e; exact ORf.datAt r e
theorem s_fldM {i : Nat} {a0 : Addr} {f : Str} {os : List (Str × OD)} (hi : ρ[i]? = some (.mt (.me a0 (.ins C os)))) (cl : Cls K C) (hn : NoAttr K C f) (hl : os.lookup f = some (.dat d)) : Sem K (tAt K f (tVar i)) ρ d := fun G0 B0 σ G H S Q q => by
  obtain ⟨w0, T0, k1, k2, k3, k4⟩ := S.at hi
  cases k2 with
  | me k2 =>
    cases k2 with
    | ins m1 m2 m3 =>
      obtain ⟨v, z1, z2⟩ := m2.datAt hl
      exact ⟨_, k1, .inl ⟨_, _, _, _, v, rfl, m1, cl, hn, z1, q _ _ _ (Grow.refl S.gr.s) z2⟩⟩
end
/-! ### an __init__ -/
def PI (a : Addr) : Out → Post
  | .val _ => { nx := fun _ => False }
  | .exc C fs => { nx := fun _ => False, ex := fun C' fs' _ => C' = C ∧ fs' = fs }
  | .mt o => { nx := fun ρ => ρ[0]? = some (.mt (.me a o)) }
theorem sat_startI {K : PySem.W.Frag} {N : List Str} {vs : List V} {ds : List Dat} {G H1 : Hp} {a dx C : Addr} {x : Str} (e : Ex G H1) (ha : H1 a = none) (hdx : H1 dx = none) (hne : dx ≠ a) (r : DRs K G vs ds) :
    Sat K G H1 (.mt (.me a (.ins C [])) :: slots N.length ds) (L2.start (x :: N) (.ref a :: vs)) G (upd (upd H1 dx (.own a)) a (.ins C dx [])) := by
  have S0 := sat_start (N := N) e r
  have hst : L2.start (x :: N) (.ref a :: vs) = some (.ref a) :: L2.start N vs := by
    unfold L2.start
    rw [List.map_cons, List.cons_append, List.length_cons, List.length_cons, Nat.add_sub_add_right]
  have eh : Ex H1 (upd (upd H1 dx (.own a)) a (.ins C dx [])) := (Evl.Ex.new hdx).trans (Evl.Ex.new (by rw [upd_ne (fun z => hne z.symm)]; exact ha))
  have ns : ∀ (i : Nat) (o : OD), (slots N.length ds)[i]? ≠ some (.mt o) := fun i o h => by
    unfold slots at h
    by_cases hi : i < ds.length
    · rw [List.getElem?_append_left (by simpa using hi), List.getElem?_map] at h
      cases z : ds[i]? with
      | none => rw [z] at h; cases h
      | some d' => rw [z] at h; cases h
    · rw [List.getElem?_append_right (by simpa using hi)] at h
      rw [List.getElem?_replicate] at h
      split at h <;> cases h
  rw [hst]
  refine ⟨⟨Evl.Ex.refl _, e.trans eh, eh, fun _ h _ => h⟩, by rw [List.length_cons, List.length_cons, S0.len], fun i d h => ?_, fun _ => [a], fun i o h => ?_, fun i j o o' n h1 h2 => ?_⟩
  · cases i with
    | zero => cases h
    | succ i =>
      obtain ⟨v, h1, h2⟩ := S0.dat i d h
      exact ⟨v, h1, h2⟩
  · cases i with
    | zero =>
      cases h
      refine ⟨.ref a, rfl, .me (.ins upd_same .nil (by simp)), fun b hb => ?_⟩
      rcases List.mem_cons.mp hb with z | z
      · rw [z]; exact ⟨fresh_back e ha, ha⟩
      · cases z
    | succ i => exact absurd h (ns i o)
  · cases i with
    | zero =>
      cases j with
      | zero => exact absurd rfl n
      | succ j => exact absurd h2 (ns j o')
    | succ i => exact absurd h1 (ns i o)
section
variable {P : Program} {w : World} {K : PySem.W.Frag} {mg : Str → Option Value} {base : Heap}
theorem fn_init {x qual : Str} {st : Stmt} {f : Addr} {fd : FuncData} {x0 : Str} {N ps : List Str} {k : Nat} {C : Addr} {R : List Dat → Out → Prop} {T : WX → TS} (F : Fun K x qual st f fd) (S : FnScope (x0 :: N) (x0 :: ps) (defScope st))
    (hlen : ∀ ds o, R ds o → ds.length = ps.length)
    (hp : ∀ (cdv : Value) (A : Around) (outer : List Env) (s : Shared) (H : Hp) (E : XK), Room k (A.deeper (envOfC qual (defScope st) s.heap.objs.size f cdv)) → PSs (cxOf (L2.CX P w) P w K mg base (x0 :: N) qual (defScope st) f cdv A outer s H E) (defBody st) (T fun cls d _ H => E cls d H))
    (hs : ∀ W a ds o, R ds o → SemS K W (T W) (.mt (.me a (.ins C [])) :: slots N.length ds) (PI a o)) : FnOk P w K mg base (L2.CX P w) (k + 1) f fd (x0 :: ps) (spInit K C R) := by
  refine F.okX S (fun vs H Q E h => ?_) (fun cdv A outer s H vs Q E hr h => ?_)
  · obtain ⟨G, H1, a, dx, ws, ds, rfl, _, _, _, _, _, r, h⟩ := h
    rw [List.length_cons, List.length_cons, r.length]
    rcases h with ⟨o, hR, _⟩ | ⟨D, fs, hR, _⟩
    · rw [hlen ds _ hR]
    · rw [hlen ds _ hR]
  · obtain ⟨G, H1, a, dx, ws, ds, rfl, rfl, ha, hdx, hne, e, r, h⟩ := h
    rcases h with ⟨o, hR, q⟩ | ⟨D, fs, hR, q⟩
    · refine ⟨_, hp cdv A outer s _ E hr, hs _ a ds _ hR G H1 _ G _ _ (sat_startI e ha hdx hne r) (fun ρ' σ' G' H' h S' => ?_) ⟨fun _ _ _ _ h _ _ => h.elim, fun _ _ _ _ _ h _ _ _ => h.elim, fun _ _ _ _ _ _ h _ _ => h.elim⟩ (fun _ _ _ _ h _ => h.elim) (fun _ _ _ _ h _ => h.elim) (fun _ _ _ _ _ _ _ h _ _ => h.elim)⟩
      obtain ⟨v, T', k1, k2, k3, _⟩ := S'.at h
      cases k2 with
      | me k2 => exact q _ _ _ S'.gr k2 fun b hb => ⟨(k3 b hb).2, (k3 b hb).1⟩
    · refine ⟨_, hp cdv A outer s _ E hr, hs _ a ds _ hR G H1 _ G _ _ (sat_startI e ha hdx hne r) (fun ρ' σ' G' H' h S' => h.elim) ⟨fun _ _ _ _ h _ _ => h.elim, fun _ _ _ _ _ h _ _ _ => h.elim, fun _ _ _ _ _ _ h _ _ => h.elim⟩ (fun _ _ _ _ h _ => h.elim) (fun _ _ _ _ h _ => h.elim) (fun C' fs' dd ρ' σ' G' H' h S' hx => ?_)⟩
      obtain ⟨rfl, rfl⟩ := h
      exact q _ _ _ S'.gr hx
end
end DL

set_option Elab.async false
set_option linter.all false
set_option maxRecDepth 100000
set_option maxHeartbeats 1000000
/-! DLi: isinstance of a tuple of classes, list.count, list.index, int(..), sum(..), what is looked at in lists -/
namespace DL
open PySem PySem.Spec PyProof.Rows L2
open Evl (Ex ex_l ex_t fresh_back)
/-! ### isinstance(x, (A, B)) -/
def clsV : Dat → Option Value
  | .cls C => some (.ref C)
  | .ty n => some (.type n)
  | _ => none
def clsVs : List Dat → Option (List Value)
  | [] => some []
  | d :: r => match clsV d, clsVs r with
    | some u, some us => some (u :: us)
    | _, _ => none
theorem DRs.cls {K : PySem.W.Frag} {G : Hp} : ∀ {vs : List V} {ds : List Dat} {us : List Value}, DRs K G vs ds → clsVs ds = some us → Paired ClsV vs us
  | _, _, us, .nil, h => by cases h; exact .nil
  | _, _, us, @DRs.cons _ _ v vs d ds h1 r, h => by
    unfold clsVs at h
    cases h2 : clsV d with
    | none => rw [h2] at h; cases h
    | some u =>
      cases h3 : clsVs ds with
      | none => rw [h2, h3] at h; cases h
      | some ws =>
        rw [h2, h3] at h
        cases h
        refine .cons ?_ (DRs.cls r h3)
        cases h1 with
        | cls C => cases h2; exact .own C
        | ty n => cases h2; exact .ty n
        | _ => cases h2
/-- the type of what a datum tells -/
def TyOf (K : PySem.W.Frag) (d : Dat) (t : Value) : Prop := ∀ G H v, Ex G H → DR K G v d → TyX K H v t
section
variable {K : PySem.W.Frag} {ρ : List Sl} {t ta tb tc te : TE} {a b c d : Dat}
theorem ty_ins {C : Addr} {gs : List (Str × Dat)} (T : InsC K C) : TyOf K (.ins C gs) (.ref C) := fun G H v e r => by
  cases r with
  | ins h _ => exact .base (.ins (e _ _ h) T.cl T.ha T.hn T.ht T.hm)
theorem ty_of {n : String} (h : tyD d = some n) : TyOf K d (.type n) := fun G H v e r => (r.mono e).ty' h
theorem cs_isiTT {ds : List Dat} {tv : Value} {us : List Value} {k : Bool} (ht : TyOf K d tv) (hc : clsVs ds = some us) (hk : PySem.W.kitAny K tv us = some k) : CallS K (uIsi K) [d, .tup ds] (.bl k) := fun xs G H e r Q q => by
  cases r with
  | cons h1 r =>
    cases r with
    | cons h2 r =>
      cases r
      cases h2 with
      | tup a1 r1 => exact .inr (.inr ⟨_, _, _, tv, us, k, rfl, ex_t e a1, r1.cls hc, ht _ _ _ e h1, hk, q _ _ _ (Grow.refl e) (.bl k)⟩)
theorem cs_isiO {cc : Dat} {tv u : Value} {k : Bool} (ht : TyOf K d tv) (hc : clsV cc = some u) (hk : PySem.W.kitOne K tv u = some k) : CallS K (uIsi K) [d, cc] (.bl k) := fun xs G H e r Q q => by
  cases r with
  | cons h1 r =>
    cases r with
    | cons h2 r =>
      cases r
      refine .inl ⟨_, _, tv, u, k, rfl, ?_, ht _ _ _ e h1, hk, q _ _ _ (Grow.refl e) (.bl k)⟩
      cases h2 with
      | cls C => cases hc; exact .own C
      | ty n => cases hc; exact .ty n
      | _ => cases hc
end
/-! ### list.count, list.index -/
def uCount (K : PySem.W.Frag) : V → List V → Hp → VK → Prop := fun x xs H Q => ∃ (p : Addr) (ys : List V) (y : V) (d : PyData) (ds : List PyData), x = .ref p ∧ xs = [y] ∧ SqL K H p ys ∧ DpAll K H ys ds ∧ Dp K H y d ∧ PyData.plainAll ds = true ∧ d.plain = true ∧
  PyData.depthAll ds ≤ 60 ∧ Q (.int ((ds.countP fun z => PyData.eqv z d : Nat) : Int)) H
theorem mt_count {X : Cx} {K : PySem.W.Frag} (hK : X.K = K) (hu : X.A.units + 64 < cLine) : MtR X "list.count" (uCount K) := by
  subst hK
  intro pins s σ H x xs v us Q I rx rxs h
  obtain ⟨p, ys, y, d, ds, rfl, rfl, hs, hds, hd, pds, pd, hn, q⟩ := h
  cases rx
  obtain ⟨u, rfl, ru⟩ := rxs.one
  obtain ⟨its, rv, hl, _⟩ := I.list hs
  obtain ⟨as, rs⟩ := Dp.readsAll I ds ys its hds rv
  obtain ⟨bs, rd⟩ := Dp.reads I d y u hd ru
  refine PySem.SeqAt.count_list_data hl.isList (by rw [List.toList_toArray]; exact rs) rd pds pd ?_ ⟨.int ((ds.countP fun z => PyData.eqv z d : Nat) : Int), H, I.tok _, ⟨_, rfl⟩, q⟩
  have := Nat.min_le_left (PyData.depthAll ds) d.depth
  omega
def uIndexD (K : PySem.W.Frag) : V → List V → Hp → VK → Prop := rIndexD K
theorem mt_indexU {X : Cx} {K : PySem.W.Frag} (hK : X.K = K) (hu : X.A.units + 65 < cLine) : MtR X "list.index" (uIndexD K) := by
  subst hK
  exact mt_indexD hu
section
variable {K : PySem.W.Frag} {ρ : List Sl} {t ta tb tc te : TE} {a b c d : Dat}
theorem s_bmL {r : V → List V → Hp → VK → Prop} {ls : List Dat} {u : TA} {ds : List Dat} (h : Sem K te ρ (.lst ls)) (h1 : SemA K u ρ ds) (hr : MtS K r (.lst ls) ds c) : Sem K (tBM K "list" r te u) ρ c := fun G0 B0 σ G H S Q q =>
  h _ _ _ _ _ S _ fun x G1 H1 g1 rx => ⟨by
    cases rx with
    | lst a1 r1 => exact .inl ⟨rfl, _, .inl (.inl (g1.s _ _ a1))⟩, h1 _ _ _ _ _ (S.grow g1) _ fun ys G2 H2 g2 ry =>
    hr x ys G2 H2 g2.s (rx.mono g2.g) ry Q fun v G3 H3 g3 rv => q v G3 H3 ((g1.trans g2).trans g3) rv⟩
theorem ms_count {ls : List Dat} (p1 : plainDs ls = true) (p2 : plainD d = true) (q1 : PyData.plainAll (toPys ls) = true) (q2 : (toPy d).plain = true) (hn : PyData.depthAll (toPys ls) ≤ 60) : MtS K (uCount K) (.lst ls) [d] (.int (((toPys ls).countP fun z => PyData.eqv z (toPy d) : Nat) : Int)) := fun x xs G H e rx rs Q q => by
  cases rs with
  | cons h r =>
    cases r
    cases rx with
    | lst a1 r1 => exact ⟨_, _, _, toPy d, toPys ls, rfl, rfl, .inl (.inl (e _ _ a1)), (r1.mono e).dp p1, (h.mono e).dp p2, q1, q2, hn, q _ _ _ (Grow.refl e) (.int _)⟩
theorem ms_index {ls : List Dat} {j : Nat} {z : PyData} (p1 : plainDs ls = true) (p2 : plainD d = true) (q1 : SeqAt.shaped (.list (toPys ls)) = true) (q2 : SeqAt.shaped (toPy d) = true) (hj : (toPys ls)[j]? = some z) (hz : PyData.eqv z (toPy d) = true)
    (hno : ∀ (m : Nat) (z' : PyData), m < j → (toPys ls)[m]? = some z' → PyData.eqv z' (toPy d) = false) : MtS K (uIndexD K) (.lst ls) [d] (.int (j : Int)) := fun x xs G H e rx rs Q q => by
  cases rs with
  | cons h r =>
    cases r
    have hp : plainD (.lst ls) = true := by unfold plainD; exact p1
    have hx := (rx.mono e).dp hp
    cases rx with
    | lst a1 r1 => exact ⟨_, _, toPy d, toPys ls, j, z, rfl, rfl, hx, (h.mono e).dp p2, q1, q2, hj, hz, hno, q _ _ _ (Grow.refl e) (.int _)⟩
end
/-! ### int(..) of a truth -/
def uInt : List V → Hp → VK → Prop := fun xs H Q => (∃ i, xs = [.int i] ∧ Q (.int i) H) ∨ ∃ k, xs = [.bl k] ∧ Q (.int (if k then 1 else 0)) H
theorem cu_int {X : Cx} : CallR X (.type "int") uInt := call_int1
theorem cs_intB {K : PySem.W.Frag} {k : Bool} : CallS K uInt [.bl k] (.int (if k then 1 else 0)) := fun xs G H e r Q q => by
  cases r with
  | cons h1 r =>
    cases r; cases h1
    exact .inr ⟨k, rfl, q _ _ _ (Grow.refl e) (.int _)⟩
/-! ### lists that one owns are looked at: what comes of it holds no list and no dict -/
mutual
def noLst : Dat → Bool
  | .lst _ => false
  | .dct _ => false
  | .scr _ => false
  | .tup xs => noLsts xs
  | .ins _ fs => noLstf fs
  | .exc _ _ => false
  | _ => true
def noLsts : List Dat → Bool
  | [] => true
  | x :: r => noLst x && noLsts r
def noLstf : List (Str × Dat) → Bool
  | [] => true
  | (_, x) :: r => noLst x && noLstf r
end
section
variable {K : PySem.W.Frag} {G G' : Hp}
mutual
theorem DR.noLst (h : ∀ a u, G a = some u → (∀ xs, u ≠ .lst xs) → (∀ xs, u ≠ .dK xs) → G' a = some u) : ∀ {v : V} {d : Dat}, DR K G v d → noLst d = true → DR K G' v d
  | _, _, .non, _ => .non
  | _, _, .ty n, _ => .ty n
  | _, _, .cls n, _ => .cls n
  | _, _, .bl b, _ => .bl b
  | _, _, .int i, _ => .int i
  | _, _, .txt cs, _ => .txt cs
  | _, _, .exc0 _, p => by simp [DL.noLst] at p
  | _, _, .exc1 _ _ _, p => by simp [DL.noLst] at p
  | _, _, .lst _ _, p => by simp [DL.noLst] at p
  | _, _, .scr _, p => by simp [DL.noLst] at p
  | _, _, .dct _ _, p => by simp [DL.noLst] at p
  | _, _, .tup a r, p => by
    refine .tup ?_ (DRs.noLst h r (by simpa [DL.noLst] using p))
    rcases a with (a | ⟨o, a⟩) | a
    · exact .inl (.inl (h _ _ a (fun xs z => by cases z) (fun xs z => by cases z)))
    · exact .inl (.inr ⟨o, h _ _ a (fun xs z => by cases z) (fun xs z => by cases z)⟩)
    · exact .inr a
  | _, _, .ins a r, p => .ins (h _ _ a (fun xs z => by cases z) (fun xs z => by cases z)) (DRf.noLst h r (by simpa [DL.noLst] using p))
theorem DRs.noLst (h : ∀ a u, G a = some u → (∀ xs, u ≠ .lst xs) → (∀ xs, u ≠ .dK xs) → G' a = some u) : ∀ {v : List V} {d : List Dat}, DRs K G v d → noLsts d = true → DRs K G' v d
  | _, _, .nil, _ => .nil
  | _, _, .cons a r, p => by
    rw [DL.noLsts, Bool.and_eq_true] at p
    exact .cons (DR.noLst h a p.1) (DRs.noLst h r p.2)
theorem DRf.noLst (h : ∀ a u, G a = some u → (∀ xs, u ≠ .lst xs) → (∀ xs, u ≠ .dK xs) → G' a = some u) : ∀ {v : List (Str × V)} {d : List (Str × Dat)}, DRf K G v d → noLstf d = true → DRf K G' v d
  | _, _, .nil, _ => .nil
  | _, _, .cons a r, p => by
    rw [DL.noLstf, Bool.and_eq_true] at p
    exact .cons (DR.noLst h a p.1) (DRf.noLst h r p.2)
end
end
def plSl : Sl → Bool
  | .mt (.pl _) => true
  | .mt (.pd _) => true
  | .mt _ => false
  | _ => true
theorem Sat.peekL {K : PySem.W.Frag} {ρ : List Sl} {G0 B0 G H : Hp} {σ : L2.St} (S : Sat K G0 B0 ρ σ G H) (hp : ρ.all plSl = true) : ∃ G1, Sat K G1 G1 (ρ.map frzSl) σ G1 H ∧ ∀ G2 H2, Grow G1 H G2 H2 → ∃ G3, Grow G H G3 H2 ∧ ∀ a u, G2 a = some u → (∀ xs, u ≠ .lst xs) → (∀ xs, u ≠ .dK xs) → G3 a = some u := by
  obtain ⟨F, f1, f2⟩ := S.fp
  classical
  let P : Addr → Prop := fun a => ∃ i o, ρ[i]? = some (Sl.mt o) ∧ a ∈ F i
  have hP : ∀ a, P a → G a = none ∧ H a ≠ none ∧ ∀ u, H a = some u → (∃ xs, u = .lst xs) ∨ ∃ xs, u = .dK xs := fun a ⟨i, o, h, ha⟩ => by
    obtain ⟨v, h1, h2, h3⟩ := f1 i o h
    refine ⟨(h3 a ha).1, h2.there a ha, fun u hu => ?_⟩
    have hpl := List.all_eq_true.mp hp _ (List.mem_of_getElem? h)
    generalize F i = T at ha h2
    cases h2 with
    | pl k1 k2 =>
      rcases List.mem_cons.mp ha with z | z
      · rw [z, k1] at hu; cases hu; exact .inl ⟨_, rfl⟩
      · cases z
    | pd k1 k2 =>
      rcases List.mem_cons.mp ha with z | z
      · rw [z, k1] at hu; cases hu; exact .inr ⟨_, rfl⟩
      · cases z
    | _ => cases hpl
  have eg : Ex G (fun a => if P a then H a else G a) := fun a u hu => by
    show (if P a then H a else G a) = some u
    rw [if_neg (fun q => by rw [(hP a q).1] at hu; cases hu)]; exact hu
  have es : Ex (fun a => if P a then H a else G a) H := fun a u hu => by
    have hu : (if P a then H a else G a) = some u := hu
    by_cases q : P a
    · rw [if_pos q] at hu; exact hu
    · rw [if_neg q] at hu; exact S.gr.s a u hu
  refine ⟨fun a => if P a then H a else G a, ⟨⟨Evl.Ex.refl _, es, es, fun a h _ => h⟩, by rw [List.length_map]; exact S.len, fun j e hj => ?_, fun _ => [], fun j o2 hj => ?_, fun j k o1 o2 n g1 g2 a ha => by cases ha⟩, fun G2 H2 g => ⟨fun a => if P a then none else G2 a, ⟨fun a u hu => ?_, fun a u hu => ?_, g.h, fun a k1 k2 => ?_⟩, fun a u hu n1 n2 => ?_⟩⟩
  · rw [List.getElem?_map] at hj
    cases z : ρ[j]? with
    | none => rw [z] at hj; cases hj
    | some s =>
      rw [z] at hj
      have hj : frzSl s = .dat e := Option.some.inj hj
      cases s with
      | no => cases hj
      | dat d =>
        cases hj
        obtain ⟨w, k1, k2⟩ := S.dat j e z
        exact ⟨w, k1, k2.mono eg⟩
      | mt o =>
        cases hj
        obtain ⟨w, k1, k2, k3⟩ := f1 j o z
        refine ⟨w, k1, k2.frz eg fun a ha u hu => ?_⟩
        show (if P a then H a else G a) = some u
        rw [if_pos ⟨j, o, z, ha⟩]; exact hu
  · rw [List.getElem?_map] at hj
    cases z : ρ[j]? with
    | none => rw [z] at hj; cases hj
    | some s =>
      rw [z] at hj
      have hj : frzSl s = .mt o2 := Option.some.inj hj
      cases s <;> cases hj
  · have q : ¬ P a := fun q => by rw [(hP a q).1] at hu; cases hu
    show (if P a then none else G2 a) = some u
    rw [if_neg q]
    refine g.g a u ?_
    show (if P a then H a else G a) = some u
    rw [if_neg q]; exact hu
  · have hu : (if P a then none else G2 a) = some u := hu
    by_cases q : P a
    · rw [if_pos q] at hu; cases hu
    · rw [if_neg q] at hu; exact g.s a u hu
  · show (if P a then none else G2 a) = none
    by_cases q : P a
    · rw [if_pos q]
    · rw [if_neg q]
      refine g.m a ?_ k2
      show (if P a then H a else G a) = none
      rw [if_neg q]; exact k1
  · show (if P a then none else G2 a) = some u
    rw [if_neg (fun q => ?_)]
    · exact hu
    · obtain ⟨_, h2, h3⟩ := hP a q
      cases w : H a with
      | none => exact h2 w
      | some u' =>
        have e1 : G2 a = some u' := g.g a u' (by show (if P a then H a else G a) = some u'; rw [if_pos q]; exact w)
        rw [hu] at e1
        cases e1
        rcases h3 u w with ⟨xs, z⟩ | ⟨xs, z⟩
        · exact n1 xs z
        · exact n2 xs z
theorem s_peekL {K : PySem.W.Frag} {ρ : List Sl} {te : TE} {d : Dat} (hp : ρ.all plSl = true) (hs : noLst d = true) (h : Sem K te (ρ.map frzSl) d) : Sem K te ρ d := fun G0 B0 σ G H S Q q => by
  obtain ⟨G1, S1, hb⟩ := S.peekL hp
  refine h _ _ _ _ _ S1 _ fun v G2 H2 g2 rv => ?_
  obtain ⟨G3, g3, h3⟩ := hb G2 H2 g2
  exact q v G3 H2 g3 (rv.noLst h3 hs)
end DL

set_option Elab.async false
set_option linter.all false
set_option maxRecDepth 100000
set_option maxHeartbeats 1000000
/-! DLj: bundles for the end: methods, classes that are made, defs that are not reached -/
namespace DL
open PySem PySem.Spec PyProof.Rows L2
open Evl (Ex ex_l ex_t fresh_back)
theorem ps_fldU {X : Cx} {K : PySem.W.Frag} {o value : Expr} {f : Str} {pos pos' : Pos} {ta tv : TE} (hK : X.K = K) (ha : PE X o ta) (hv : PE X value tv) (hs : swapsWith value (some (.Attribute o f pos')) pos.line X.env = pure false) : PS X (.Assign [.Attribute o f pos'] value pos) (sFld K ta tv f) := by
  subst hK
  exact ps_fld ha hv hs
section
variable {P : Program} {w : World} {K : PySem.W.Frag} {mg : Str → Option Value} {base : Heap}
/-- an __init__ with defaults -/
theorem fn_initD {x qual : Str} {st : Stmt} {f : Addr} {fd : FuncData} {x0 : Str} {N ps : List Str} {k : Nat} {C : Addr} {dvs : List V} {R : List Dat → Out → Prop} {T : WX → TS} (F : FunD K x qual (defArgs st) (defBody st) (defScope st) dvs [] f fd) (S : FnScope (x0 :: N) (x0 :: ps) (defScope st))
    (hlen : ∀ ds o, R ds o → ds.length = ps.length)
    (hp : ∀ (cdv : Value) (A : Around) (outer : List Env) (s : Shared) (H : Hp) (E : XK), Room k (A.deeper (envOfC qual (defScope st) s.heap.objs.size f cdv)) → PSs (cxOf (L2.CX P w) P w K mg base (x0 :: N) qual (defScope st) f cdv A outer s H E) (defBody st) (T fun cls d _ H => E cls d H))
    (hs : ∀ W a ds o, R ds o → SemS K W (T W) (.mt (.me a (.ins C [])) :: slots N.length ds) (PI a o)) : FnOk P w K mg base (L2.CX P w) (k + 1) f fd (x0 :: ps) (spInit K C R) := by
  refine F.ok S (fun vs H Q E h => ?_) (fun cdv A outer s H vs Q E hr h => ?_)
  · obtain ⟨G, H1, a, dx, ws, ds, rfl, _, _, _, _, _, r, h⟩ := h
    rw [List.length_cons, List.length_cons, r.length]
    rcases h with ⟨o, hR, _⟩ | ⟨D, fs, hR, _⟩
    · rw [hlen ds _ hR]
    · rw [hlen ds _ hR]
  · obtain ⟨G, H1, a, dx, ws, ds, rfl, rfl, ha, hdx, hne, e, r, h⟩ := h
    rcases h with ⟨o, hR, q⟩ | ⟨D, fs, hR, q⟩
    · refine ⟨_, hp cdv A outer s _ E hr, hs _ a ds _ hR G H1 _ G _ _ (sat_startI e ha hdx hne r) (fun ρ' σ' G' H' h S' => ?_) ⟨fun _ _ _ _ h _ _ => h.elim, fun _ _ _ _ _ h _ _ _ => h.elim, fun _ _ _ _ _ _ h _ _ => h.elim⟩ (fun _ _ _ _ h _ => h.elim) (fun _ _ _ _ h _ => h.elim) (fun _ _ _ _ _ _ _ h _ _ => h.elim)⟩
      obtain ⟨v, T', k1, k2, k3, _⟩ := S'.at h
      cases k2 with
      | me k2 => exact q _ _ _ S'.gr k2 fun b hb => ⟨(k3 b hb).2, (k3 b hb).1⟩
    · refine ⟨_, hp cdv A outer s _ E hr, hs _ a ds _ hR G H1 _ G _ _ (sat_startI e ha hdx hne r) (fun ρ' σ' G' H' h S' => h.elim) ⟨fun _ _ _ _ h _ _ => h.elim, fun _ _ _ _ _ h _ _ _ => h.elim, fun _ _ _ _ _ _ h _ _ => h.elim⟩ (fun _ _ _ _ h _ => h.elim) (fun _ _ _ _ h _ => h.elim) (fun C' fs' dd ρ' σ' G' H' h S' hx => ?_)⟩
      obtain ⟨rfl, rfl⟩ := h
      exact q _ _ _ S'.gr hx
/-- a def that is called nowhere -/
theorem fn_none {f : Addr} {fd : FuncData} {ps : List Str} {k : Nat} {CX : CXT} : FnOk P w K mg base CX k f fd ps (spO K fun _ _ => False) := by
  have no : ∀ vs H Q E, spO K (fun _ _ => False) vs H Q E → False := fun vs H Q E h => by
    obtain ⟨_, _, _, _, ⟨_, z, _⟩ | ⟨_, _, z, _⟩ | ⟨_, z, _⟩⟩ := h <;> exact z
  exact ⟨fun vs H Q E h => (no vs H Q E h).elim, fun A outer s H args us vs Q E _ _ _ _ h => (no vs H Q E h).elim⟩
theorem gx_none {x qual : Str} {st : Stmt} {f : Addr} {fd : FuncData} {ps : List Str} {k : Nat} (F : Fun K x qual st f fd) (hm : mg x = some (.ref f)) (hb : Binds K fd ps []) : GX P w K mg base k x ps (spO K fun _ _ => False) := ⟨f, fd, fn_none, hm, F.kp, hb⟩
theorem fn_noneD {f : Addr} {fd : FuncData} {ps : List Str} {k : Nat} {CX : CXT} : FnOk P w K mg base CX k f fd ps (spD K fun _ _ => False) := by
  have no : ∀ vs H Q E, spD K (fun _ _ => False) vs H Q E → False := fun vs H Q E h => by
    obtain ⟨_, _, _, _, _, z, _⟩ := h; exact z
  exact ⟨fun vs H Q E h => (no vs H Q E h).elim, fun A outer s H args us vs Q E _ _ _ _ h => (no vs H Q E h).elim⟩
theorem gd_none {x qual : Str} {st : Stmt} {f : Addr} {fd : FuncData} {ps : List Str} {k : Nat} (F : Fun K x qual st f fd) (hm : mg x = some (.ref f)) (hb : Binds K fd ps []) : GD P w K mg base k x ps (spD K fun _ _ => False) := ⟨f, fd, fn_noneD, hm, F.kp, hb⟩
end
end DL

set_option Elab.async false
set_option linter.all false
set_option maxRecDepth 100000
set_option maxHeartbeats 1000000
/-! DSa: sets made of lists, whose members are keys (texts, ints) or tuples of keys: how many there are, and sorted -/
namespace DL
open PySem PySem.Spec PyProof.Rows L2
/-- the object of a new set -/
abbrev setO (w : World) : Obj := { cls := .type "set", dict := none, data := .set #[] 0 (.fresh 0 0 (!w.params.followText "set-order")) }
/-- what is known of the table of a set that can be walked; vs are its members in the order of the table -/
structure Tb (w : World) (h : Heap) (a : Addr) (vs : List Value) : Prop where
  ex : ∃ es ep t, SetAt h a es ep t ∧ t.fits es.size = true ∧ es.size < scanBound ∧ Ris t.place.toList ∧ (w.params.followText "set-order" = true ∨ t.led = true) ∧ es.toList.map (·.2) = vs
/-- a kind of members: which value stands for which key; St: the set at a has these members -/
structure Knd (P : Program) (w : World) (E : Type) where
  is : Heap → E → Value → Prop
  St : Heap → Addr → List (Value × E) → Prop
  most : Nat
  small : most ≤ 4000
  isKeep : ∀ {h h' : Heap} {k : E} {v : Value}, is h k v → (∀ b o, h.get? b = some o → h'.get? b = some o) → is h' k v
  isSame : ∀ {h h' : Heap} {a : Addr} {L : List (Value × E)} {k : E} {v : Value}, is h k v → St h a L → Heap.SameBut a h h' → is h' k v
  tb : ∀ {h : Heap} {a : Addr} {L : List (Value × E)}, St h a L → Tb w h a (L.map (·.1))
  nd : ∀ {h : Heap} {a : Addr} {L : List (Value × E)}, St h a L → (L.map (·.2)).Nodup
  new : ∀ {h : Heap} {a : Addr}, h.get? a = some (setO w) → St h a []
  keep : ∀ {h h' : Heap} {a : Addr} {L : List (Value × E)}, St h a L → (∀ b o, h.get? b = some o → (b = a ∨ ∃ p ∈ L, p.1 = .ref b) → h'.get? b = some o) → St h' a L
  add : ∀ {A : Around} {X : Value → Shared → Prop} {s : Shared} {a : Addr} {L : List (Value × E)} {x : Value} {k : E} {Q : Bool → Shared → Prop}, A.units < cLine → St s.heap a L → is s.heap k x → L.length + 1 < most →
    (∀ b h' L' tk, s.toks ≤ tk → Heap.SameBut a s.heap h' → St h' a L' → (k ∈ L.map (·.2) → L' = L) → (k ∉ L.map (·.2) → L'.Perm ((x, k) :: L)) → Q b { s with heap := h', toks := tk }) →
    wpAny (model P w) A (setAdd a x) Q X s
/-- the set has got the first i items -/
structure Has {E : Type} (ks : List (Value × E)) (i : Nat) (L : List (Value × E)) : Prop where
  sub : ∀ p ∈ L, p ∈ ks.take i
  all : ∀ p ∈ ks.take i, p.2 ∈ L.map (·.2)
  len : L.length ≤ i
theorem Has.nil {E : Type} (ks : List (Value × E)) : Has ks 0 [] := ⟨fun _ h => (by cases h), fun p h => (by simp at h), Nat.le_refl _⟩
theorem takeS {α : Type} {l : List α} {i : Nat} {x : α} (h : l[i]? = some x) : l.take (i + 1) = l.take i ++ [x] := by rw [List.take_succ, h]; rfl
theorem Has.old {E : Type} {ks L : List (Value × E)} {i : Nat} {x : Value × E} (g : Has ks i L) (h : ks[i]? = some x) (hm : x.2 ∈ L.map (·.2)) : Has ks (i + 1) L := by
  have e := takeS h
  refine ⟨fun p hp => ?_, fun p hp => ?_, Nat.le_succ_of_le g.len⟩
  · rw [e]; exact List.mem_append_left _ (g.sub p hp)
  · rw [e] at hp
    rcases List.mem_append.mp hp with z | z
    · exact g.all p z
    · rw [List.mem_singleton.mp z]; exact hm
theorem Has.more {E : Type} {ks L L' : List (Value × E)} {i : Nat} {x : Value × E} (g : Has ks i L) (h : ks[i]? = some x) (pm : L'.Perm (x :: L)) : Has ks (i + 1) L' := by
  have e := takeS h
  refine ⟨fun p hp => ?_, fun p hp => ?_, by rw [pm.length_eq]; exact Nat.succ_le_succ g.len⟩
  · rw [e]
    rcases List.mem_cons.mp (pm.mem_iff.mp hp) with z | z
    · rw [z]; exact List.mem_append_right _ (List.mem_singleton.mpr rfl)
    · exact List.mem_append_left _ (g.sub p z)
  · rw [e] at hp
    rw [(pm.map (·.2)).mem_iff, List.map_cons]
    rcases List.mem_append.mp hp with z | z
    · exact List.mem_cons_of_mem _ (g.all p z)
    · rw [List.mem_singleton.mp z]; exact List.mem_cons_self
section
variable {P : Program} {w : World} {A : Around} {X : Value → Shared → Prop} {E : Type}
/-- the loop that puts items into a set -/
theorem upd_loop (κ : Knd P w E) {I : Addr} {fp wr : List Addr} {Gn : Array GenState → Array GenState → Prop} {n : Nat} {Pv : Nat → Value → Prop} {Sx : Nat → Shared → Prop} {R : Result → Shared → Prop}
    (Wk : WalksS P w A.in1 I fp wr Gn n Pv Sx) (S : Addr) (nS : S ∉ fp) (ks : List (Value × E)) (en : n = ks.length) (few : ks.length + 1 < κ.most) (hv : ∀ i v, Pv i v → ∃ p, ks[i]? = some p ∧ v = p.1)
    (h0 : Heap) (hk : ∀ p ∈ ks, κ.is h0 p.2 p.1) (none0 : h0.get? S = none) (noneW : ∀ b ∈ wr, h0.get? b = none) (refs : ∀ p ∈ ks, ∀ b, p.1 = .ref b → ∃ o, h0.get? b = some o) (un : A.in1.units < cLine) :
    ∀ (m i : Nat) (s : Shared), n - i = m → i ≤ n → Sx i s → (∀ b o, h0.get? b = some o → s.heap.get? b = some o) → (∃ L, κ.St s.heap S L ∧ Has ks i L) →
      (∀ s' L, Moved (S :: wr) Gn s s' → κ.St s'.heap S L → Has ks n L → (∀ b o, h0.get? b = some o → s'.heap.get? b = some o) → R (.ok (.ret .none)) s') →
      codeAny (model P w) A (.builtin "set.update.loop" ⟨[.ref S, .ref I], []⟩) R s := by
  have nW : S ∉ wr := fun z => nS (Wk.sub _ z)
  have cons : ∀ b ∈ wr, b ∈ S :: wr := fun b hb => .tail _ hb
  have step : ∀ {s s' : Shared}, Moved wr Gn s s' → (∀ b o, h0.get? b = some o → s.heap.get? b = some o) → ∀ b o, h0.get? b = some o → s'.heap.get? b = some o := fun mv kp b o e =>
    mv.heap b o (fun hb => by rw [noneW b hb] at e; cases e) (kp b o e)
  have stay : ∀ {s s' : Shared} {L : List (Value × E)} {i : Nat}, Moved wr Gn s s' → (∀ b o, h0.get? b = some o → s.heap.get? b = some o) → κ.St s.heap S L → Has ks i L → κ.St s'.heap S L := fun {s s' L i} mv kp st g => by
    refine κ.keep st fun b o e hb => ?_
    rcases hb with z | ⟨p, hp, z⟩
    · rw [z] at e ⊢; exact mv.heap S o nW e
    · obtain ⟨o', e'⟩ := refs p (List.mem_of_mem_take (g.sub p hp)) b z
      have e2 := kp b o' e'
      rw [e] at e2
      rw [Option.some.inj e2]
      exact step mv kp b o' e'
  intro m
  induction m with
  | zero =>
    rintro i s hm hi sx kp ⟨L, st, g⟩ hR
    obtain rfl : i = n := by omega
    refine codeAny_builtin PyProof.Rows.F.entry_set_update_loop ?_
    rw [Around.under_plainId PyProof.Rows.F.plain_set_update_loop _]
    show wpAny _ A.in1 (pyNext (.ref I) >>= _) _ _ s
    refine wpAny_bind (Wk.done s _ _ sx fun s' mv => ?_)
    show wpAny _ A.in1 (ret Value.none) _ _ s'
    exact wpAny_pure (hR s' L (mv.mono cons) (stay mv kp st g) g (step mv kp))
  | succ m ih =>
    rintro i s hm hi sx kp ⟨L, st, g⟩ hR
    have lt : i < n := by omega
    refine codeAny_builtin PyProof.Rows.F.entry_set_update_loop ?_
    rw [Around.under_plainId PyProof.Rows.F.plain_set_update_loop _]
    show wpAny _ A.in1 (pyNext (.ref I) >>= _) _ _ s
    refine wpAny_bind (Wk.item i s _ _ lt sx fun v s' pv sx' mv => ?_)
    obtain ⟨p, hp, rfl⟩ := hv i v pv
    have st' := stay mv kp st g
    have kp' := step mv kp
    show wpAny _ A.in1 (holding [p.1] (setAdd S p.1) >>= _) _ _ s'
    refine wpAny_bind (wpAny_holding (κ.add un st' (κ.isKeep (hk p (List.mem_of_getElem? hp)) kp') (by have := g.len; omega) fun b h' L' tk tle sb st2 c1 c2 => ?_))
    have g' : Has ks (i + 1) L' := by
      rcases Classical.em (p.2 ∈ L.map (·.2)) with c | c
      · rw [c1 c]; exact g.old hp c
      · exact g.more hp (c2 c)
    have kp2 : ∀ b o, h0.get? b = some o → h'.get? b = some o := fun b o e => (sb.2 b (fun z => by rw [z, none0] at e; cases e)).trans (kp' b o e)
    refine wpAny_pure ⟨plainId_quiet PyProof.Rows.F.plain_set_update_loop _, ih (i + 1) _ (by omega) lt (Wk.frame _ s' _ _ sx' tle fun c hc o e => ?_) kp2 ⟨L', st2, g'⟩ fun s'' L2 mv2 st3 g3 kp3 => ?_⟩
    · rw [sb.2 c (fun z => nS (by rw [← z]; exact hc))]; exact e
    · refine hR s'' L2 (Moved.trans Wk.gtrans ((mv.mono cons).then_heap tle fun c o hc e => ?_) mv2) st3 g3 kp3
      rw [sb.2 c (fun z => hc (by rw [z]; exact .head _))]; exact e
set_option maxHeartbeats 4000000 in
/-- set(l), l a list -/
theorem call_setof (κ : Knd P w E) {s : Shared} {l : Addr} {its : Array Value} (ks : List (Value × E)) {Q : Value → Shared → Prop} (calm : A.handled = none) (isl : s.heap.IsList l its) (eit : its.toList = ks.map (·.1))
    (hk : ∀ p ∈ ks, κ.is s.heap p.2 p.1) (few : ks.length + 1 < κ.most) (refs : ∀ p ∈ ks, ∀ b, p.1 = .ref b → ∃ o, s.heap.get? b = some o) (un : A.units + 3 < cLine)
    (q : ∀ (h' : Heap) (tk : Nat) L, κ.St h' s.heap.objs.size L → Has ks ks.length L → (∀ b o, s.heap.get? b = some o → h'.get? b = some o) → Q (.ref s.heap.objs.size) { s with heap := h', toks := tk }) :
    wpAny (model P w) A (call (.type "set") [.ref l]) Q X s := by
  have size : its.size = ks.length := by
    have z := congrArg List.length eit
    rwa [Array.length_toList, List.length_map] at z
  have gone : ∀ b, s.heap.objs.size ≤ b → s.heap.get? b = none := fun b hb => by
    cases z : s.heap.get? b with
    | none => rfl
    | some o => exact absurd (Nat.lt_of_lt_of_le (Heap.lt_size z) hb) (Nat.lt_irrefl _)
  obtain ⟨c, tl, m1⟩ := F.called_set.mro
  have m2 := F.called_set.made
  have m3 := F.called_set.sub
  refine wpAny_call (codeAny_of_tree ?_)
  show wpAny _ _ (callAny (.type "set") _) _ _ _
  refine wpAny_pure ⟨Code.quiet_builtin _ (by decide +kernel), codeAny_builtin F.entry_type_call ?_⟩
  rw [Around.under_plain (weight_type_call_type "set" [.ref l] []) rfl]
  have m4 := F.called_set.notType
  have m5 := F.called_set.canCreate
  have m6 := F.typeCall_set_1 (.ref l)
  repeat (any_goals (first | assumption | wp_step))
  refine codeAny_mono (code_set_led1 (.ref l) (E := X) (Q₁ := fun ob s1 => ob = .ref s.heap.objs.size ∧ s1 = { s with heap := s.heap.push (setO w) }) ⟨rfl, rfl⟩) fun r s1 hr => ?_
  cases r with
  | error e => exact hr
  | ok fl =>
    cases fl with
    | ret ob =>
      obtain ⟨rfl, rfl⟩ := hr
      have got : (s.heap.push (setO w)).get? s.heap.objs.size = some (setO w) := Heap.get?_push_size _ rfl
      have ty : Shared.TypeIs { s with heap := s.heap.push (setO w) } (.ref s.heap.objs.size) "set" := ⟨_, got, rfl⟩
      have m7 := F.called_set.init.lookup
      have m8 := F.called_set.init.bind (.ref s.heap.objs.size)
      repeat (any_goals (first | assumption | wp_step))
      refine codeAny_mono (codeAny_call_builtin (R := wants (fun r s2 => r = .none ∧ ∃ h' tk L, s2 = { s with heap := h', toks := tk } ∧ κ.St h' s.heap.objs.size L ∧ Has ks ks.length L ∧ (∀ b o, s.heap.get? b = some o → h'.get? b = some o)) X) F.called_set.init.plain F.entry_set_init (check_set_init_1 ty ?_)) fun r2 s2 hr2 => ?_
      · obtain ⟨ol, hol, hcl, nl, hdl⟩ := isl
        obtain ⟨oc, od, oda, osl⟩ := ol
        simp only at hcl hdl
        subst hcl; subst hdl
        have hol2 : (s.heap.push (setO w)).get? l = some { cls := .type "list", dict := od, data := .seq its nl, slots := osl } := Heap.get?_push_of_some _ hol
        have n1 := F.sub_list_set
        have n2 := F.sub_list_frozenset
        have n3 : (Value.type "list" == Value.type "dict") = false := by decide
        have isl2 : (s.heap.push (setO w)).IsList l its := ⟨_, hol2, rfl, nl, rfl⟩
        unfold Builtin.«set.__init__» noKeywords Builtin.Frozenset.updateFrom
        generalize ePI : pyIter = PI
        wp_walk
        subst ePI
        refine wpAny_pyIter_list isl2 ?_
        refine wpAny_bind (wpAny_runValue ?_)
        have ll : l < s.heap.objs.size := Heap.lt_size hol
        have cl3 : A.in1.in1.in1.handled = none := by simp [calm]
        have sp : (s.heap.push (setO w)).objs.size = s.heap.objs.size + 1 := Heap.size_push ..
        have nI : l ≠ (s.heap.push (setO w)).objs.size := by rw [sp]; exact Nat.ne_of_lt (Nat.lt_succ_of_lt ll)
        have nS : s.heap.objs.size ∉ [(s.heap.push (setO w)).objs.size, l] := fun z => by
          rw [sp] at z
          rcases List.mem_cons.mp z with z | z
          · exact absurd z (Nat.ne_of_lt (Nat.lt_succ_self _))
          · exact absurd (List.mem_singleton.mp z) (Nat.ne_of_gt ll)
        have hv : ∀ (i : Nat) (v : Value), its[i]? = some v → ∃ p, ks[i]? = some p ∧ v = p.1 := fun i v hi => by
          have z : its.toList[i]? = some v := by rw [Array.getElem?_toList]; exact hi
          rw [eit, List.getElem?_map] at z
          cases y : ks[i]? with
          | none => rw [y] at z; cases z
          | some p => rw [y] at z; exact ⟨p, rfl, (Option.some.inj z).symm⟩
        refine upd_loop κ ((Walks.list cl3 _ l nI its).toS) s.heap.objs.size nS ks size few hv s.heap hk (gone _ (Nat.le_refl _))
          (fun b hb => gone b (by rw [List.mem_singleton.mp hb, sp]; exact Nat.le_succ _)) refs un (its.size - 0) 0 _ (by omega) (Nat.zero_le _)
          ⟨⟨_, Heap.get?_push_size _ rfl, rfl, rfl⟩, (isl2.push _)⟩ (fun b o e => Heap.get?_push_of_some _ (Heap.get?_push_of_some _ e)) ⟨[], κ.new (Heap.get?_push_of_some _ got), Has.nil ks⟩ ?_
        intro s' L mv st g kp
        obtain ⟨h', gn, dr, tk, os⟩ := s'
        have e1 : gn = s.gens := mv.gens
        have e2 : dr = s.drawn := mv.drawn
        have e3 : os = s.os := mv.os
        subst e1; subst e2; subst e3
        show wpAny _ _ _ _ _ _
        refine wpAny_pure ?_
        show wpAny _ _ (ret Value.none) _ _ _
        rw [size] at g
        exact wpAny_pure ⟨rfl, h', tk, L, rfl, st, g, kp⟩
      · cases r2 with
        | error e => exact hr2
        | ok f2 =>
          cases f2 with
          | ret r =>
            obtain ⟨rfl, h', tk, L, rfl, st, g, kp⟩ := hr2
            repeat (any_goals (first | assumption | wp_step))
            exact q _ _ _ st g kp
          | _ => exact hr2.elim
    | _ => exact hr.elim
/-- len of a set -/
theorem call_lenof {s : Shared} {a : Addr} {vs : List Value} {Q : Value → Shared → Prop} (T : Tb w s.heap a vs) (ex : ∀ o, s.heap.get? a = some o → o.ExactSet) (q : Q (.int (vs.length : Nat) (s.toks + 1)) { s with toks := s.toks + 1 + 1 }) :
    wpAny (model P w) A (call (.builtin "len") [.ref a]) Q X s := by
  obtain ⟨es, ep, t, ⟨o, ho, hc, hd⟩, hf, hb, _, _, hv⟩ := T.ex
  have hz : es.size = vs.length := by rw [← hv, List.length_map, Array.length_toList]
  rw [← hz] at q
  refine call_len_set ho (ex o ho) hd hf ?_ q
  unfold scanBound at hb
  omega
end
end DL

set_option Elab.async false
set_option linter.all false
set_option maxRecDepth 100000
set_option maxHeartbeats 1000000
/-! DSb: members that are keys -/
namespace DL
open PySem PySem.Spec PyProof.Rows L2
theorem perm_back {α β : Type} (f : α → β) : ∀ {l m : List β}, l.Perm m → ∀ M : List α, m = M.map f → ∃ M' : List α, l = M'.map f ∧ M'.Perm M := by
  intro l m p
  induction p with
  | nil => intro M e; exact ⟨[], rfl, by cases M with | nil => exact .refl _ | cons a r => cases e⟩
  | cons x p ih =>
    intro M e
    cases M with
    | nil => cases e
    | cons a r =>
      rw [List.map_cons, List.cons.injEq] at e
      obtain ⟨M', e1, p1⟩ := ih r e.2
      exact ⟨a :: M', by rw [List.map_cons, e.1, e1], p1.cons a⟩
  | swap x y l =>
    intro M e
    match M, e with
    | [], e => cases e
    | [a], e => cases e
    | a :: b :: r, e =>
      rw [List.map_cons, List.map_cons, List.cons.injEq, List.cons.injEq] at e
      exact ⟨b :: a :: r, by rw [List.map_cons, List.map_cons, e.1, e.2.1, e.2.2], .swap a b r⟩
  | trans p q ih1 ih2 =>
    intro M e
    obtain ⟨M1, e1, p1⟩ := ih2 M e
    obtain ⟨M2, e2, p2⟩ := ih1 M1 e1
    exact ⟨M2, e2, p2.trans p1⟩
/-- an entry -/
abbrev ent (P : Program) (w : World) (p : Value × Key) : Int × Value := ((mixKind P w).hash p.2, p.1)
structure StK (P : Program) (w : World) (h : Heap) (a : Addr) (L : List (Value × Key)) : Prop where
  ex : ∃ o es ep t, h.get? a = some o ∧ o.ExactSet ∧ o.data = .set es ep t ∧ es.toList = L.map (ent P w) ∧ es.size < scanBound ∧ t.fits es.size = true ∧ Ris t.place.toList ∧ (w.params.followText "set-order" = true ∨ t.led = true)
  is : ∀ p ∈ L, keyIs p.2 p.1 = true
  nd : (L.map (·.2)).Nodup
theorem key_scan' {k : Key} {v : Value} (h : keyIs k v = true) : v.scannable = true := by
  rcases keyIs_shape h with ⟨i, t, rfl, rfl⟩ | ⟨x, t, rfl, rfl⟩ <;> rfl
section
variable {P : Program} {w : World} {A : Around} {X : Value → Shared → Prop} {s : Shared} {a : Addr} {L : List (Value × Key)}
theorem elems {es : Array (Int × Value)} (e : es.toList = L.map (ent P w)) (is : ∀ p ∈ L, keyIs p.2 p.1 = true) : ElemsOf (mixKind P w) es.toList := fun x hx => by
  rw [e] at hx
  obtain ⟨p, hp, rfl⟩ := List.mem_map.mp hx
  exact ⟨⟨p.2, is p hp, rfl⟩, key_scan' (is p hp)⟩
/-- what is stored behind a new member -/
theorem addK_tail {g : Bool → PySem.Sem Unit} (hg : ∀ (b : Bool) (s1 : Shared) (Q' : Unit → Shared → Prop), Q' () s1 → wpAny (model P w) A (g b) Q' X s1) {o : Obj} {es es1 : Array (Int × Value)} {ep : Nat} {t t2 : SetTable}
    (ob : s.heap.get? a = some o) (exa : o.ExactSet) (da : o.data = .set es ep t) {L1 : List (Value × Key)} (r1 : es1.toList = L1.map (ent P w)) (i1 : ∀ p ∈ L1, keyIs p.2 p.1 = true) (n1 : (L1.map (·.2)).Nodup)
    (z1 : es1.size < scanBound) (f2 : t2.fits es1.size = true) (ri : Ris t2.place.toList) (le : w.params.followText "set-order" = true ∨ t2.led = true) {wd : Bool} {R : Option Bool → Shared → Prop}
    (hR : ∀ h' L', Heap.SameBut a s.heap h' → StK P w h' a L' → L'.Perm L1 → R (some true) { s with heap := h' }) :
    wpAny (model P w) A (do
      storeSet a es1 t2
      if (!wd && t2.tooFull) = true then do
          g (relayAll t2 es1 (SetTable.grown es1.size)).2.2
          storeSet a (relayAll t2 es1 (SetTable.grown es1.size)).1 (relayAll t2 es1 (SetTable.grown es1.size)).2.1
          pure (some true)
        else pure (some true)) R X s := by
  refine wpAny_bind (wpAny_storeSet_of ob da ?_ (fits_of_scanBound z1))
  have ob1 := store_at (es' := es1) (t' := t2) ob da
  have sb1 := Heap.SameBut.update s.heap a (Obj.putSet es1 t2)
  split
  · have pm := relayAll_perm t2 es1 (SetTable.grown es1.size)
    have f3 := relayAll_fits t2 es1 (SetTable.grown es1.size)
    have r3 := relayAll_ris t2 es1 (SetTable.grown es1.size)
    have l3 := relayAll_led t2 es1 (SetTable.grown es1.size)
    generalize relayAll t2 es1 (SetTable.grown es1.size) = Z at pm f3 r3 l3 ⊢
    obtain ⟨es2, t3, gave⟩ := Z
    dsimp only at pm f3 r3 l3 ⊢
    have sz : es2.size = es1.size := by rw [← Array.length_toList, pm.length_eq, Array.length_toList]
    have z2 : es2.size < scanBound := by rw [sz]; exact z1
    obtain ⟨L2, e2, p2⟩ := perm_back (ent P w) pm L1 r1
    refine wpAny_bind (hg _ _ _ (wpAny_bind (wpAny_storeSet_of ob1 rfl ?_ (fits_of_scanBound z2))))
    exact wpAny_pure (hR _ L2 (sb1.trans (Heap.SameBut.update _ a _)) ⟨⟨_, es2, _, t3, store_at (es' := es2) (t' := t3) ob1 rfl, exa, rfl, e2, z2, f3, r3, le.imp id fun z => by rw [l3]; exact z⟩, fun p hp => i1 p (p2.mem_iff.mp hp), (p2.map (·.2)).nodup_iff.mpr n1⟩ p2)
  · exact wpAny_pure (hR _ L1 sb1 ⟨⟨_, es1, _, t2, ob1, exa, rfl, r1, z1, f2, ri, le⟩, i1, n1⟩ (.refl _))
theorem addK {k : Key} {x : Value} {Q : Bool → Shared → Prop} (St : StK P w s.heap a L) (hx : keyIs k x = true) (few : L.length + 1 < 4000)
    (hQ : ∀ b h' L', Heap.SameBut a s.heap h' → StK P w h' a L' → (k ∈ L.map (·.2) → L' = L) → (k ∉ L.map (·.2) → L'.Perm ((x, k) :: L)) → Q b { s with heap := h' }) :
    wpAny (model P w) A (setAddHashed a x ((mixKind P w).hash k)) Q X s := by
  obtain ⟨o, es, ep, t, ob, exa, da, rows, z0, f0, ri, le⟩ := St.ex
  have sc := key_scan' hx
  have el := elems rows St.is
  unfold setAddHashed setAddHashedIn
  refine wpAny_holding (wpAny_bind (wpAny_setState_of ob da f0 ?_))
  dsimp only
  rw [byScan_of sc z0 el]
  simp only [↓reduceIte]
  unfold setAddByScan
  refine wpAny_bind (wpAny_bind (wpAny_rule (wpAny_bind (wpAny_setScan_of (knd := mixKind P w) hx ob da f0 el ?_))))
  have inL : (∃ e ∈ es.toList, (mixKind P w).is k e.2 = true) ↔ k ∈ L.map (·.2) := by
    rw [rows]
    constructor
    · rintro ⟨e, he, ke⟩
      obtain ⟨p, hp, rfl⟩ := List.mem_map.mp he
      exact List.mem_map.mpr ⟨p, hp, (mixKind P w).inj _ _ _ (St.is p hp) ke⟩
    · intro hm
      obtain ⟨p, hp, rfl⟩ := List.mem_map.mp hm
      exact ⟨_, List.mem_map.mpr ⟨p, hp, rfl⟩, St.is p hp⟩
  cases fi : List.findIdx? (fun e => (mixKind P w).is k e.2) es.toList with
  | some j =>
    dsimp only
    obtain ⟨hj, pj, _⟩ := List.findIdx?_eq_some_iff_getElem.mp fi
    have hm : k ∈ L.map (·.2) := inL.mp ⟨es.toList[j], List.getElem_mem hj, pj⟩
    exact wpAny_pure (wpAny_pure (hQ _ s.heap L (Heap.SameBut.refl a s.heap) St (fun _ => rfl) fun z => absurd hm z))
  | none =>
    dsimp only
    have hm : k ∉ L.map (·.2) := fun z => by
      obtain ⟨e, he, ke⟩ := inL.mpr z
      have c := List.findIdx?_eq_none_iff.mp fi e he
      rw [ke] at c
      cases c
    have pm := layNew_perm t es ((mixKind P w).hash k) x
    have f1 := layNew_fits t es ((mixKind P w).hash k) x
    have r1 := layNew_ris t es ((mixKind P w).hash k) x ri
    have l1 := layNew_led t es ((mixKind P w).hash k) x
    generalize layNew t es ((mixKind P w).hash k) x = Z at pm f1 r1 l1 ⊢
    obtain ⟨es1, t1, wd, gave⟩ := Z
    dsimp only at pm f1 r1 l1 ⊢
    rw [Array.toList_push, rows] at pm
    obtain ⟨L1, e1, p1⟩ := perm_back (ent P w) pm (L ++ [(x, k)]) (by rw [List.map_append]; rfl)
    have p1 : L1.Perm ((x, k) :: L) := p1.trans (List.perm_append_singleton _ _)
    have i1 : ∀ p ∈ L1, keyIs p.2 p.1 = true := fun p hp => by
      rcases List.mem_cons.mp (p1.mem_iff.mp hp) with z | z
      · rw [z]; exact hx
      · exact St.is p z
    have n1 : (L1.map (·.2)).Nodup := (p1.map (·.2)).nodup_iff.mpr (List.nodup_cons.mpr ⟨hm, St.nd⟩)
    have sz : es1.size = L.length + 1 := by rw [← Array.length_toList, e1, List.length_map, p1.length_eq, List.length_cons]
    have z1 : es1.size < scanBound := by rw [sz]; unfold scanBound; omega
    have le1 : w.params.followText "set-order" = true ∨ t1.led = true := le.imp id fun z => by rw [l1]; exact z
    have fin : ∀ h' L', Heap.SameBut a s.heap h' → StK P w h' a L' → L'.Perm L1 → Q true { s with heap := h' } := fun h' L' sb st pl => hQ true h' L' sb st (fun z => absurd z hm) fun _ => pl.trans p1
    refine wpAny_bind ?_
    cases gave <;> first | refine wpAny_pure ?_ | refine wpAny_rule ?_
    all_goals
      split
      · rw [hashByValue_scannable 8 sc]
        refine wpAny_bind (wpAny_pure ?_)
        refine addK_tail ?_ ob exa da e1 i1 n1 z1 ?_ ?_ ?_ fun h' L' sb st pl => ?_
        · intro b s1 Q' q; cases b <;> first | exact wpAny_pure q | exact wpAny_rule q
        · first | (split <;> first | exact f1 | exact SetTable.fits_plain_off f1) | exact f1
        · first | (split <;> exact r1) | exact r1
        · first | (split <;> exact le1) | exact le1
        · dsimp only; exact wpAny_pure (fin h' L' sb st pl)
      · refine wpAny_bind (wpAny_pure ?_)
        simp only [↓reduceIte]
        refine addK_tail ?_ ob exa da e1 i1 n1 z1 f1 r1 le1 fun h' L' sb st pl => ?_
        · intro b s1 Q' q; cases b <;> first | exact wpAny_pure q | exact wpAny_rule q
        · dsimp only; exact wpAny_pure (fin h' L' sb st pl)
end
def kndK (P : Program) (w : World) : Knd P w Key where
  is := fun _ k v => keyIs k v = true
  St := StK P w
  most := 4000
  small := Nat.le_refl _
  isKeep := fun h _ => h
  isSame := fun h _ _ => h
  tb := fun {h a L} st => by
    obtain ⟨o, es, ep, t, ob, exa, da, rows, z0, f0, ri, le⟩ := st.ex
    exact ⟨es, ep, t, ⟨o, ob, exa.1, da⟩, f0, z0, ri, le, by rw [rows, List.map_map]; rfl⟩
  nd := fun st => st.nd
  new := fun {h a} ho => ⟨⟨_, #[], 0, _, ho, ⟨rfl, rfl, rfl⟩, rfl, rfl, by decide, rfl, List.Pairwise.nil, by
    show _ ∨ (!w.params.followText "set-order") = true
    cases w.params.followText "set-order"
    · exact .inr rfl
    · exact .inl rfl⟩, fun _ h => (by cases h), List.nodup_nil⟩
  keep := fun {h h' a L} st k => by
    obtain ⟨o, es, ep, t, ob, r⟩ := st.ex
    exact ⟨⟨o, es, ep, t, k a o ob (.inl rfl), r⟩, st.is, st.nd⟩
  add := fun {A X s a L x k Q} un st hx few hQ => by
    unfold setAdd
    refine wpAny_holding (wpAny_bind ((mixKind P w).pyHash hx ?_))
    exact addK (s := { s with toks := s.toks + 1 }) st hx few fun b h' L' sb st' c1 c2 => hQ b h' L' (s.toks + 1) (Nat.le_succ _) sb st' c1 c2
end DL

set_option Elab.async false
set_option linter.all false
set_option maxRecDepth 100000
set_option maxHeartbeats 2000000
/-! DSc: members that are tuples of keys -/
namespace DL
open PySem PySem.Spec PyProof.Rows L2
abbrev tH (P : Program) (w : World) (k : List Key) : Int := tupleKeyHash (mixKind P w) k
abbrev isTp (P : Program) (w : World) (h : Heap) (k : List Key) (v : Value) : Prop := ∃ b, v = .ref b ∧ IsTupleKey (mixKind P w) h k b
abbrev entT (P : Program) (w : World) (p : Value × List Key) : Int × Value := (tH P w p.2, p.1)
structure TSet (P : Program) (w : World) (h : Heap) (a : Addr) (L : List (Value × List Key)) (es : Array (Int × Value)) (ep : Nat) (t : SetTable) : Prop where
  ob : ∃ o, h.get? a = some o ∧ o.ExactSet ∧ o.data = .set es ep t
  rows : es.toList = L.map (entT P w)
  tab : TabOk t (L.map fun p => tH P w p.2)
  led : w.params.followText "set-order" = true ∨ t.led = true
  room : L.length * 5 < t.mask * 3
  is : ∀ p ∈ L, isTp P w h p.2 p.1
  nd : (L.map (·.2)).Nodup
section
variable {P : Program} {w : World} {A : Around} {X : Value → Shared → Prop} {s : Shared} {a : Addr} {L : List (Value × List Key)} {es : Array (Int × Value)} {ep : Nat} {t : SetTable}
theorem items_key {k : List Key} {vs : List Value} (h : ItemsAre (mixKind P w) k vs) : ∀ v ∈ vs, (∃ i t, v = Value.int i t) ∨ ∃ x t, v = Value.str x t := by
  induction h with
  | nil => intro v hv; cases hv
  | @cons k0 v0 ks vs h1 _ ih =>
    intro v hv
    rcases List.mem_cons.mp hv with e | hv
    · rcases keyIs_shape (show keyIs k0 v0 = true from h1) with ⟨i, t, _, e2⟩ | ⟨x, t, _, e2⟩
      · exact .inl ⟨i, t, e.trans e2⟩
      · exact .inr ⟨x, t, e.trans e2⟩
    · exact ih v hv
theorem ofAClassK {n : Nat} {v : Value} (h : (∃ i t, v = Value.int i t) ∨ ∃ x t, v = Value.str x t) : ofAClassStatement n v = pure false := by
  rcases h with ⟨i, t, rfl⟩ | ⟨x, t, rfl⟩ <;> cases n <;> rfl
theorem hashByK {n : Nat} {v : Value} (h : (∃ i t, v = Value.int i t) ∨ ∃ x t, v = Value.str x t) : ∃ b, hashByValue n v = pure b := by
  rcases h with ⟨i, t, rfl⟩ | ⟨x, t, rfl⟩ <;> cases n <;> exact ⟨_, rfl⟩
theorem ofAClassT {k : List Key} {b : Addr} {Q : Bool → Shared → Prop} (hk : IsTupleKey (mixKind P w) s.heap k b) (q : Q false s) : wpAny (model P w) A (ofAClassStatement 8 (.ref b)) Q X s := by
  have ty := hk.typeIs
  obtain ⟨o, its, n, ho, _, hd, hi⟩ := hk
  unfold ofAClassStatement
  refine wpAny_bind (wpAny_typeOf ty ?_)
  dsimp only
  have e : (("tuple" : String) == "tuple") = true := by decide
  simp only [e, if_true, Bool.not_true, Bool.false_eq_true, if_false]
  try refine wpAny_bind (wpAny_pure ?_)
  try simp only [Bool.not_true, Bool.false_eq_true, if_false]
  show wpAny _ _ (seqItems? (.ref b) >>= _) _ _ s
  refine wpAny_bind (wpAny_seqItems ho hd ?_)
  dsimp only
  refine wpAny_bind ?_
  show wpAny _ _ (forIn its _ _) _ _ s
  rw [← Array.forIn_toList]
  refine wpAny_forIn_list _ (fun rs r s' => r.1 = none ∧ s' = s ∧ ∀ v ∈ rs, (∃ i t, v = Value.int i t) ∨ ∃ x t, v = Value.str x t) _ ?_ ?_ _ _ ⟨rfl, rfl, items_key hi⟩
  · rintro v rs r s' ⟨hr, rfl, all⟩
    rw [ofAClassK (all v (.head _))]
    refine wpAny_bind (wpAny_pure ?_)
    simp only [Bool.false_eq_true, if_false]
    exact wpAny_pure ⟨rfl, rfl, fun u hu => all u (.tail _ hu)⟩
  · rintro ⟨r1, r2⟩ s' ⟨hr, rfl, _⟩
    simp only at hr
    subst hr
    exact wpAny_pure q
theorem hashByT {k : List Key} {b : Addr} {Q : Bool → Shared → Prop} (hk : IsTupleKey (mixKind P w) s.heap k b) (q : ∀ r, Q r s) : wpAny (model P w) A (hashByValue 8 (.ref b)) Q X s := by
  have ty := hk.typeIs
  obtain ⟨o, its, n, ho, _, hd, hi⟩ := hk
  unfold hashByValue
  refine wpAny_bind (wpAny_specialOf ty F.slot_tuple_hash.lookup ?_)
  show wpAny _ _ (seqItems? (.ref b) >>= _) _ _ s
  refine wpAny_bind (wpAny_seqItems ho hd ?_)
  refine wpAny_bind ?_
  show wpAny _ _ (forIn its _ _) _ _ s
  rw [← Array.forIn_toList]
  refine wpAny_forIn_list _ (fun rs r s' => s' = s ∧ ∀ v ∈ rs, (∃ i t, v = Value.int i t) ∨ ∃ x t, v = Value.str x t) _ ?_ ?_ _ _ ⟨rfl, items_key hi⟩
  · rintro v rs r s' ⟨rfl, all⟩
    obtain ⟨b', e⟩ := hashByK (n := 7) (all v (.head _))
    rw [e]
    refine wpAny_bind (wpAny_pure ?_)
    cases b' with
    | true =>
      simp only [Bool.not_true, Bool.false_eq_true, if_false]
      exact wpAny_pure ⟨rfl, fun u hu => all u (.tail _ hu)⟩
    | false =>
      simp only [Bool.not_false, if_true]
      exact wpAny_pure (wpAny_pure (q _))
  · rintro ⟨r1, r2⟩ s' ⟨rfl, _⟩
    cases r1 with
    | none => exact wpAny_pure (q _)
    | some b' => exact wpAny_pure (q _)
theorem seenT {k : List Key} {b : Addr} {Q : Bool → Shared → Prop} (hk : IsTupleKey (mixKind P w) s.heap k b) {ys : List Value} (hy : ∀ y ∈ ys, ∃ k', isTp P w s.heap k' y) (q : Q false s) :
    wpAny (model P w) A (searchCouldBeSeen (.ref b) ys) Q X s := by
  unfold searchCouldBeSeen
  refine wpAny_bind ?_
  refine wpAny_forIn_list _ (fun rs r s' => r.1 = none ∧ s' = s ∧ ∀ y ∈ rs, ∃ k', isTp P w s.heap k' y) _ ?_ ?_ _ _ ⟨rfl, rfl, hy⟩
  · rintro v rs r s' ⟨hr, rfl, all⟩
    obtain ⟨k', c, rfl, hc⟩ := all v (.head _)
    have all' : ∀ y ∈ rs, ∃ k', isTp P w s'.heap k' y := fun u hu => all u (.tail _ hu)
    dsimp only
    by_cases z : (b == c || (carriedByValue (.ref b) && carriedByValue (.ref c))) = true
    · exact wp_if_pos z (wpAny_pure ⟨rfl, rfl, all'⟩)
    · refine wp_if_neg z (wpAny_bind (wpAny_eqIsQuiet_tuple hk ?_))
      simp only [Bool.not_true, Bool.false_eq_true, if_false]
      refine wpAny_bind (wpAny_eqIsQuiet_tuple hc ?_)
      simp only [Bool.not_true, Bool.false_eq_true, if_false]
      refine wpAny_bind (ofAClassT hk ?_)
      simp only [Bool.false_eq_true, if_false]
      refine wpAny_bind (ofAClassT hc ?_)
      simp only [Bool.false_eq_true, if_false]
      exact wpAny_pure ⟨rfl, rfl, all'⟩
  · rintro ⟨r1, r2⟩ s' ⟨hr, rfl, _⟩
    simp only at hr
    subst hr
    exact wpAny_pure q
theorem TSet.size (R : TSet P w s.heap a L es ep t) : es.size = L.length := by
  have z := congrArg List.length R.rows
  rwa [Array.length_toList, List.length_map] at z
theorem TSet.fits (R : TSet P w s.heap a L es ep t) : t.fits es.size = true := by
  have z1 := R.tab.sz
  rw [List.length_map] at z1
  have z2 := R.size
  have z3 := R.room
  unfold SetTable.fits SetTable.fill
  rw [R.tab.dm, Bool.and_eq_true, beq_iff_eq, decide_eq_true_eq]
  show t.place.size = es.size ∧ t.place.size + 0 ≤ t.mask
  omega
theorem TSet.row (R : TSet P w s.heap a L es ep t) {i : Nat} {p : Value × List Key} (h : L[i]? = some p) : es[i]? = some (tH P w p.2, p.1) := by
  rw [← Array.getElem?_toList, R.rows, List.getElem?_map, h]; rfl
/-- the first step of the way of k -/
abbrev way0 (m : Nat) (h : Int) : SetTable.Probe := runAt m (SetTable.bits h % (m + 1)) (SetTable.bits h)
theorem nd_way (m : Nat) (h : Int) (c : Nat) : (nth m (way0 m h) c).dummy = none := by
  have key : ∀ (n : Nat) (p : SetTable.Probe), p.dummy = none → (nth m p n).dummy = none := by
    intro n
    induction n with
    | zero => intro p z; exact z
    | succ n ih =>
      intro p z
      refine ih (adv m p) ?_
      unfold adv
      split <;> exact z
  exact key c _ rfl
/-- the search for the tuple x of the keys k: K steps lead to the first free slot -/
theorem srch (R : TSet P w s.heap a L es ep t) {x : Addr} {k : List Key} (hx : IsTupleKey (mixKind P w) s.heap k x) (un : A.units < cLine) {K : Nat} (kf : K < 10 * SetTable.turns t.mask)
    (hK : way t.mask (tH P w k) K ∉ t.place.toList) (hb : ∀ c, c < K → way t.mask (tH P w k) c ∈ t.place.toList) {Q : SetFound → Shared → Prop}
    (yes : k ∈ L.map (·.2) → Q (.there none) s) (no : k ∉ L.map (·.2) → Q (.free (way t.mask (tH P w k) K) false) s) :
    ∀ (f c : Nat) (st : Option SetTable.Probe), st.getD (t.probeStart (tH P w k)) = nth t.mask (way0 t.mask (tH P w k)) c → c ≤ K → K - c < f →
      (∀ (i : Nat) p, L[i]? = some p → p.2 = k → ∃ c', c ≤ c' ∧ c' < K ∧ t.place.toList[i]? = some (way t.mask (tH P w k) c')) →
      wpAny (model P w) A (setSearchFrom a (.ref x) (tH P w k) true f st) Q X s := by
  obtain ⟨o, ho, exa, hd⟩ := R.ob
  have hash : ∀ (i : Nat) p, L[i]? = some p → (fun i => (es[i]?.map (·.1)).getD 0) i = tH P w p.2 := fun i p hp => by
    show (es[i]?.map (·.1)).getD 0 = _
    rw [R.row hp]; rfl
  intro f
  induction f with
  | zero => intro c st _ _ z; exact absurd z (Nat.not_lt_zero _)
  | succ f ih =>
    intro c st est hc hf hre
    have sh : ∀ q, nth t.mask (nth t.mask (way0 t.mask (tH P w k)) c) q = nth t.mask (way0 t.mask (tH P w k)) (c + q) := fun q => (nth_add t.mask c _ q).symm
    have sj : ∀ q, (nth t.mask (nth t.mask (way0 t.mask (tH P w k)) c) q).j = way t.mask (tH P w k) (c + q) := fun q => congrArg SetTable.Probe.j (sh q)
    have spec := go_spec t R.tab.ris R.tab.dm (fun i => (es[i]?.map (·.1)).getD 0) (tH P w k) (10 * SetTable.turns t.mask) (K - c) _ (nd_way t.mask (tH P w k) c) (by omega)
      (fun q hq => by rw [sj]; exact hb (c + q) (by omega)) (by rw [sj, show c + (K - c) = K by omega]; exact hK)
    rw [setSearchFrom_succ]
    refine wpAny_bind (wpAny_setState_of ho hd R.fits ?_)
    dsimp only
    have gw : ¬ t.gaveWay = true := by
      unfold SetTable.gaveWay
      rw [mask_odd R.tab.mok]
      decide
    refine wp_if_neg gw ?_
    try refine wpAny_bind (wpAny_pure ?_)
    rcases spec with ⟨q, i, hq, hi, hh, hno, hpr⟩ | ⟨hno, hpr⟩
    · have pr : t.probe (fun i => (es[i]?.map (·.1)).getD 0) (tH P w k) (st.getD (t.probeStart (tH P w k))) = some (.candidate (way t.mask (tH P w k) (c + q)) i (nth t.mask (way0 t.mask (tH P w k)) (c + (q + 1)))) := by
        rw [est, ← sj, ← sh]
        exact hpr
      rw [pr]
      dsimp only
      rw [sj] at hi
      have il : i < L.length := by
        have z1 : i < t.place.toList.length := (List.getElem?_eq_some_iff.mp hi).1
        have z2 := R.tab.sz
        rw [List.length_map] at z2
        rw [Array.length_toList] at z1
        omega
      obtain ⟨p, hp⟩ : ∃ p, L[i]? = some p := ⟨_, List.getElem?_eq_getElem il⟩
      have pm : p ∈ L := List.mem_of_getElem? hp
      obtain ⟨pa, pe, pt⟩ := R.is p pm
      have rest : wpAny (model P w) A (searchRest a (.ref x) (tH P w k) true f es t (way t.mask (tH P w k) (c + q)) i (nth t.mask (way0 t.mask (tH P w k)) (c + (q + 1)))) Q X s := by
        unfold searchRest
        rw [R.row hp, pe]
        dsimp only
        refine wpAny_bind (wpAny_holding (wpAny_eqBool_tuple un pt hx (wpAny_bind (wpAny_setState_of ho hd R.fits ?_))))
        dsimp only
        by_cases ek : p.2 = k
        · exact wp_if_pos (by simp [ek]) (wpAny_pure (yes (List.mem_map.mpr ⟨p, pm, ek⟩)))
        · refine wp_if_neg (by simp [ek]) ?_
          try refine wpAny_bind (wpAny_pure ?_)
          rw [sameMem]
          dsimp only
          have sl : t.slot (way t.mask (tH P w k) (c + q)) = .live i := slot_live R.tab.ris hi
          simp only [if_true, sl, R.row hp, pe]
          refine wpAny_bind (wpAny_isSame_ref_self (wpAny_bind (wpAny_pure ?_)))
          simp only [if_true]
          refine wp_if_neg (by simp [ek]) (ih (c + (q + 1)) _ rfl (by omega) (by omega) fun j p0 h0 k0 => ?_)
          obtain ⟨c', a1, a2, a3⟩ := hre j p0 h0 k0
          refine ⟨c', Classical.byContradiction fun z => ?_, a2, a3⟩
          rcases Nat.lt_or_ge c' (c + q) with y | y
          · refine hno (c' - c) j (by omega) (by rw [sj, show c + (c' - c) = c' by omega]; exact a3) ?_
            exact (hash j p0 h0).trans (congrArg (tH P w) k0)
          · have ec : c' = c + q := by omega
            rw [ec] at a3
            have s0 := slot_live R.tab.ris a3
            rw [sl] at s0
            injection s0 with s0
            rw [← s0, hp] at h0
            exact ek ((congrArg Prod.snd (Option.some.inj h0)).trans k0)
      by_cases hl : t.led = true
      · refine wp_if_neg (by simp [hl]) ?_
        try refine wpAny_bind (wpAny_pure ?_)
        exact rest
      · refine wp_if_pos (by simp [hl]) (wpAny_bind (seenT hx (fun y hy => ?_) ?_))
        · obtain ⟨e, he, ee⟩ := List.mem_map.mp hy
          have he1 : e ∈ es ∧ e.1 = tH P w k := by simpa using he
          have he2 : e ∈ es.toList := by simpa using he1.1
          rw [R.rows] at he2
          obtain ⟨p2, hp2, e2⟩ := List.mem_map.mp he2
          refine ⟨p2.2, ?_⟩
          rw [← ee, ← e2]
          exact R.is p2 hp2
        · refine wp_if_neg (by decide) ?_
          try refine wpAny_bind (wpAny_pure ?_)
          exact rest
    · have pr : t.probe (fun i => (es[i]?.map (·.1)).getD 0) (tH P w k) (st.getD (t.probeStart (tH P w k))) = some (.empty (way t.mask (tH P w k) K) none) := by
        have e2 : way t.mask (tH P w k) K = (nth t.mask (nth t.mask (way0 t.mask (tH P w k)) c) (K - c)).j := by rw [sj, show c + (K - c) = K by omega]
        rw [est, e2]
        exact hpr
      rw [pr]
      dsimp only
      refine wpAny_pure (no fun hm => ?_)
      obtain ⟨p0, h0, k0⟩ := List.mem_map.mp hm
      obtain ⟨j, hj⟩ := List.mem_iff_getElem?.mp h0
      obtain ⟨c', a1, a2, a3⟩ := hre j p0 hj k0
      exact hno (c' - c) j (by omega) (by rw [sj, show c + (c' - c) = c' by omega]; exact a3) ((hash j p0 hj).trans (congrArg (tH P w) k0))
theorem srch0 (R : TSet P w s.heap a L es ep t) {x : Addr} {k : List Key} (hx : IsTupleKey (mixKind P w) s.heap k x) (un : A.units < cLine) {Q : SetFound → Shared → Prop} (yes : k ∈ L.map (·.2) → Q (.there none) s)
    (no : ∀ K, k ∉ L.map (·.2) → way t.mask (tH P w k) K ∉ t.place.toList → (∀ c, c < K → way t.mask (tH P w k) c ∈ t.place.toList) → Q (.free (way t.mask (tH P w k) K) false) s) :
    wpAny (model P w) A (setSearch a (.ref x) (tH P w k) true) Q X s := by
  have rm := R.room
  obtain ⟨K, kf, hK, hb⟩ := R.tab.first (by rw [List.length_map]; omega) (tH P w k)
  have big : K < 100000 := by
    have : 10 * SetTable.turns t.mask ≤ 1420 := by
      unfold SetTable.turns
      rcases R.tab.mok with e | e | e <;> omega
    omega
  unfold setSearch
  refine srch R hx un kf hK hb yes (fun hn => no K hn hK hb) 100000 0 none rfl (Nat.zero_le _) (by omega) fun i p hp hk => ?_
  have z1 : (L.map fun p => tH P w p.2)[i]? = some (tH P w k) := by rw [List.getElem?_map, hp, ← hk]; rfl
  have z2 : i < t.place.toList.length := by
    have y1 : i < L.length := (List.getElem?_eq_some_iff.mp hp).1
    have y2 := R.tab.sz
    rw [List.length_map] at y2
    rw [Array.length_toList]
    omega
  have z3 := List.getElem?_eq_getElem z2
  obtain ⟨c, hc, e⟩ := R.tab.before hK z1 z3
  exact ⟨c, Nat.zero_le _, hc, by rw [z3, e]⟩
end
end DL

set_option Elab.async false
set_option linter.all false
set_option maxRecDepth 100000
set_option maxHeartbeats 2000000
/-! DSd: tuples put into a set -/
namespace DL
open PySem PySem.Spec PyProof.Rows L2
theorem range_get {α : Type} (L : List α) : (List.range L.length).filterMap (fun i => L[i]?) = L := by
  have key : ∀ n, n ≤ L.length → (List.range n).filterMap (fun i => L[i]?) = L.take n := by
    intro n
    induction n with
    | zero => intro _; rfl
    | succ n ih =>
      intro hn
      rw [List.range_succ, List.filterMap_append, ih (Nat.le_of_lt hn), List.take_succ, List.filterMap_cons_some (List.getElem?_eq_getElem hn), List.getElem?_eq_getElem hn]
      rfl
  rw [key L.length (Nat.le_refl _), List.take_length]
theorem ord_rows {α : Type} (f : α → Int × Value) (L : List α) (es : Array (Int × Value)) (ord : List Nat) (hr : es.toList = L.map f) (hp : ord.Perm (List.range L.length)) :
    ∃ L2 : List α, ord.filterMap (fun i => es[i]?) = L2.map f ∧ L2.Perm L ∧ (L2.map fun p => (f p).1) = ord.map fun i => (es.map (·.1)).getD i 0 := by
  have at' : ∀ i (h : i < L.length), es[i]? = some (f L[i]) := fun i h => by
    rw [← Array.getElem?_toList, hr, List.getElem?_map, List.getElem?_eq_getElem h]; rfl
  refine ⟨ord.filterMap fun i => L[i]?, ?_, (hp.filterMap _).trans (by rw [range_get]), ?_⟩
  · rw [List.map_filterMap]
    congr 1
    funext i
    rw [← Array.getElem?_toList, hr, List.getElem?_map]
  · have key : ∀ l : List Nat, (∀ i ∈ l, i < L.length) → ((l.filterMap fun i => L[i]?).map fun p => (f p).1) = l.map fun i => (es.map (·.1)).getD i 0 := by
      intro l
      induction l with
      | nil => intro _; rfl
      | cons i r ih =>
        intro hl
        have hi := hl i (.head _)
        rw [List.filterMap_cons_some (List.getElem?_eq_getElem hi), List.map_cons, List.map_cons, ih fun j hj => hl j (.tail _ hj)]
        have e5 : (es.map (·.1))[i]? = some (f L[i]).1 := by rw [Array.getElem?_map, at' i hi]; rfl
        rw [Array.getD_eq_getD_getElem?, e5]
        rfl
    exact key ord fun i hi => List.mem_range.mp (hp.mem_iff.mp hi)
section
variable {P : Program} {w : World} {A : Around} {X : Value → Shared → Prop} {s : Shared} {a : Addr} {L : List (Value × List Key)} {es : Array (Int × Value)} {ep : Nat} {t : SetTable}
theorem isTp_same {h h' : Heap} {k : List Key} {v : Value} {o : Obj} (hv : isTp P w h k v) (ho : h.get? a = some o) (hd : o.data = .set es ep t) (sb : Heap.SameBut a h h') : isTp P w h' k v := by
  obtain ⟨b, rfl, o', its, n, ho', hc, hd', hi⟩ := hv
  have ne : b ≠ a := by
    rintro rfl
    obtain rfl : o' = o := Option.some.inj (ho'.symm.trans ho)
    rw [hd] at hd'
    exact nomatch hd'
  exact ⟨b, rfl, o', its, n, (sb.2 b ne).trans ho', hc, hd', hi⟩
theorem relayT {o : Obj} (ho : s.heap.get? a = some o) (exa : o.ExactSet) (hd : o.data = .set es ep t) (rows : es.toList = L.map (entT P w)) (sz : t.place.size = es.size) (dm : t.dummies = #[]) (fl : es.size ≤ t.mask)
    (nd : (L.map (·.2)).Nodup) (is : ∀ p ∈ L, isTp P w s.heap p.2 p.1) (ld : w.params.followText "set-order" = true ∨ t.led = true) {wanted M : Nat}
    (hw : SetTable.sizeAbove wanted - 1 = M) (hM : MaskOk M) (hw2 : SetTable.sizeAbove wanted ≤ 128) (hn : L.length * 5 < M * 3) {Q : Unit → Shared → Prop}
    (hQ : ∀ h' L' es' ep' t', Heap.SameBut a s.heap h' → TSet P w h' a L' es' ep' t' → L'.Perm L → Q () { s with heap := h' }) : wpAny (model P w) A (setRelay a wanted) Q X s := by
  have sl : es.size = L.length := by
    have z := congrArg List.length rows
    rwa [Array.length_toList, List.length_map] at z
  have ft : t.fits es.size = true := by
    unfold SetTable.fits SetTable.fill
    rw [dm, Bool.and_eq_true, beq_iff_eq, decide_eq_true_eq]
    show t.place.size = es.size ∧ t.place.size + 0 ≤ t.mask
    omega
  obtain ⟨t', order, e, hp, T, em, el, _, _⟩ := relaid_ok t (hs := es.map (·.1)) (wanted := wanted) hw hM (by rw [Array.size_map, sl]; omega)
  rw [Array.size_map, sl] at hp
  obtain ⟨L2, r1, r2, r3⟩ := ord_rows (entT P w) L es order.toList rows hp
  have T2 : TabOk t' (L2.map fun p => tH P w p.2) := by
    have z : (L2.map fun p => (entT P w p).1) = L2.map fun p => tH P w p.2 := rfl
    rw [← z, r3]
    exact T
  have r1' : (order.filterMap (es[·]?)).toList = L2.map (entT P w) := by
    first | (rw [Array.toList_filterMap]; exact r1) | simpa using r1
  have sz2 : (order.filterMap (es[·]?)).size = es.size := by
    have z := congrArg List.length r1'
    rw [Array.length_toList, List.length_map, r2.length_eq] at z
    rw [z, sl]
  rw [setRelay_eq]
  refine wpAny_bind (wpAny_setState_of ho hd ft ?_)
  dsimp only
  refine wp_if_neg (by rw [sizeLine_eq]; omega) ?_
  try refine wpAny_bind (wpAny_pure ?_)
  rw [e]
  dsimp only
  refine wpAny_bind (wp_if_neg (by rw [sz2]; simp) ?_)
  try refine wpAny_bind (wpAny_pure ?_)
  refine wpAny_pure ?_
  dsimp only
  have sb : Heap.SameBut a s.heap (s.heap.update a (Obj.putSet (order.filterMap (es[·]?)) t')) := Heap.SameBut.update ..
  refine wpAny_storeSet_of ho hd (hQ _ L2 (order.filterMap (es[·]?)) (ep + 1) t' sb ⟨⟨_, store_at ho hd, ⟨exa.1, exa.2.1, exa.2.2⟩, rfl⟩, r1', T2, by rw [el]; exact ld, ?_, fun p hp => isTp_same (is p (r2.mem_iff.mp hp)) ho hd sb, (r2.map (·.2)).nodup_iff.mpr nd⟩ r2) (by rw [sz2, sl, sizeLine_eq]; rcases hM with z | z | z <;> omega)
  rw [r2.length_eq, em]
  exact hn
theorem addT (R : TSet P w s.heap a L es ep t) {x : Addr} {k : List Key} (hx : IsTupleKey (mixKind P w) s.heap k x) (un : A.units < cLine) (few : L.length + 1 < 75) {Q : Bool → Shared → Prop}
    (hQ : ∀ b h' L' es' ep' t', Heap.SameBut a s.heap h' → TSet P w h' a L' es' ep' t' → (k ∈ L.map (·.2) → L' = L) → (k ∉ L.map (·.2) → L'.Perm ((.ref x, k) :: L)) → Q b { s with heap := h' }) :
    wpAny (model P w) A (setAddHashed a (.ref x) (tH P w k)) Q X s := by
  obtain ⟨o, ho, exa, hd⟩ := R.ob
  have sl := R.size
  have rm := R.room
  unfold setAddHashed
  refine wpAny_holding ?_
  rw [show (100000 : Nat) = 99999 + 1 from rfl, setAddHashedIn_succ]
  refine wpAny_bind (wpAny_setState_of ho hd R.fits ?_)
  dsimp only
  refine wp_if_neg (by simp [byScan, Value.scannable]) ?_
  try refine wpAny_bind (wpAny_pure ?_)
  refine wpAny_bind (srch0 R hx un (fun hm => ?_) fun K hm hK hb => ?_)
  · dsimp only
    exact wpAny_pure (hQ false s.heap L es ep t (Heap.SameBut.refl a s.heap) R (fun _ => rfl) fun z => absurd hm z)
  · dsimp only
    refine wpAny_bind (wpAny_setState_of ho hd R.fits ?_)
    dsimp only
    obtain ⟨q1, q2, q3, q4, q5, _, _, _, q9⟩ := R.tab.put hK hb
    generalize t.put (way t.mask (tH P w k) K) = pt at q1 q3 q4 q5 q9 ⊢
    obtain ⟨t1, p⟩ := pt
    dsimp only at q1 q3 q4 q5 q9 ⊢
    subst q1
    have rw1 : (SetTable.insertAt es (SetTable.below t.place (way t.mask (tH P w k) K)) (tH P w k, Value.ref x)).toList = (L.take (SetTable.below t.place (way t.mask (tH P w k) K)) ++ (.ref x, k) :: L.drop (SetTable.below t.place (way t.mask (tH P w k) K))).map (entT P w) := by
      rw [SetTable.toList_insertAt, R.rows, List.map_append, List.map_cons, List.map_take, List.map_drop]
    generalize SetTable.below t.place (way t.mask (tH P w k) K) = p at q2 q3 rw1 ⊢
    have pm : (L.take p ++ (Value.ref x, k) :: L.drop p).Perm ((.ref x, k) :: L) := by
      have z : (L.take p ++ (Value.ref x, k) :: L.drop p).Perm ((.ref x, k) :: (L.take p ++ L.drop p)) := List.perm_middle
      rwa [List.take_append_drop] at z
    have ln : (L.take p ++ (Value.ref x, k) :: L.drop p).length = L.length + 1 := pm.length_eq
    have hs : (L.take p ++ (Value.ref x, k) :: L.drop p).map (fun p => tH P w p.2) = (L.map fun p => tH P w p.2).take p ++ tH P w k :: (L.map fun p => tH P w p.2).drop p := by
      rw [List.map_append, List.map_cons, List.map_take, List.map_drop]
    rw [← hs] at q3
    have nd1 : ((L.take p ++ (Value.ref x, k) :: L.drop p).map (·.2)).Nodup := (pm.map (·.2)).nodup_iff.mpr (List.nodup_cons.mpr ⟨hm, R.nd⟩)
    have sz1 : (SetTable.insertAt es p (tH P w k, Value.ref x)).size = L.length + 1 := by
      have z := congrArg List.length rw1
      rwa [Array.length_toList, List.length_map, ln] at z
    generalize SetTable.insertAt es p (tH P w k, Value.ref x) = es1 at rw1 sz1 ⊢
    generalize L.take p ++ (Value.ref x, k) :: L.drop p = L1 at pm ln q3 nd1 rw1
    have stp : ∀ t2 : SetTable, TabOk t2 (L1.map fun p => tH P w p.2) → t2.mask = t.mask → t2.led = t.led → t2.fill = L.length + 1 → wpAny (model P w) A (do
        storeSet a es1 t2
        if (!false && t2.tooFull) = true then setRelay a (SetTable.grown (es.size + 1))
        return true) Q X s := fun t2 T2 m2 l2 f2 => by
      refine wpAny_bind (wpAny_storeSet_of ho hd ?_ (by rw [sz1, sizeLine_eq]; omega))
      have sb : Heap.SameBut a s.heap (s.heap.update a (Obj.putSet es1 t2)) := Heap.SameBut.update ..
      have ho1 := store_at (es' := es1) (t' := t2) ho hd
      generalize s.heap.update a (Obj.putSet es1 t2) = h1 at sb ho1 ⊢
      have is1 : ∀ p ∈ L1, isTp P w h1 p.2 p.1 := fun p hp => by
        rcases List.mem_cons.mp (pm.mem_iff.mp hp) with e | hp
        · rw [e]; exact isTp_same ⟨x, rfl, hx⟩ ho hd sb
        · exact isTp_same (R.is p hp) ho hd sb
      have ld1 : w.params.followText "set-order" = true ∨ t2.led = true := by rw [l2]; exact R.led
      by_cases hf : t2.tooFull = true
      · have full : (L.length + 1) * 5 ≥ t2.mask * 3 := by
          have z := hf
          unfold SetTable.tooFull at z
          rwa [decide_eq_true_eq, f2] at z
        have pz : t2.place.size = es1.size := by
          have z := T2.sz
          rw [List.length_map, ln] at z
          rw [z, sz1]
        have go : ∀ M, SetTable.sizeAbove (SetTable.grown (L.length + 1)) - 1 = M → MaskOk M → SetTable.sizeAbove (SetTable.grown (L.length + 1)) ≤ 128 → (L.length + 1) * 5 < M * 3 → L.length + 1 ≤ t2.mask →
            wpAny (model P w) A (setRelay a (SetTable.grown (L.length + 1))) (fun _ s' => wpAny (model P w) A (pure true) Q X s') X { s with heap := h1 } := fun M g1 g2 g3 g4 g5 => by
          refine relayT (s := { s with heap := h1 }) ho1 ⟨exa.1, exa.2.1, exa.2.2⟩ rfl rw1 pz T2.dm (by rw [sz1]; exact g5) nd1 is1 ld1 g1 g2 g3 (by rw [ln]; exact g4) ?_
          intro h2 L2 es2 ep2 t3 sb2 R2 pm2
          exact wpAny_pure (hQ true h2 L2 es2 ep2 t3 (sb.trans sb2) R2 (fun z => absurd z hm) fun _ => pm2.trans pm)
        first
          | (refine wpAny_bind ?_; refine wp_if_pos (by simp [hf]) ?_)
          | (refine wp_if_pos (by simp [hf]) ?_; refine wpAny_bind ?_)
        rw [sl]
        rw [m2] at full
        rcases R.tab.mok with e | e | e
        · have e2 : L.length = 4 := by rw [e] at full rm; omega
          exact go 31 (by rw [e2, size_20]) (.inr (.inl rfl)) (by rw [e2, size_20]; decide) (by omega) (by rw [m2, e]; omega)
        · have e2 : L.length = 18 := by rw [e] at full rm; omega
          exact go 127 (by rw [e2, size_76]) (.inr (.inr rfl)) (by rw [e2, size_76]; decide) (by omega) (by rw [m2, e]; omega)
        · exfalso
          rw [e] at full
          omega
      · have room2 : L1.length * 5 < t2.mask * 3 := by
          have z := hf
          unfold SetTable.tooFull at z
          rw [decide_eq_true_eq, f2] at z
          rw [ln]
          omega
        first
          | refine wp_if_neg (by simp [hf]) ?_
          | (refine wpAny_bind ?_; refine wp_if_neg (by simp [hf]) ?_; refine wpAny_pure ?_)
        exact wpAny_pure (hQ true h1 L1 es1 (ep + 1) t2 sb ⟨⟨_, ho1, ⟨exa.1, exa.2.1, exa.2.2⟩, rfl⟩, rw1, T2, ld1, room2, is1, nd1⟩ (fun z => absurd z hm) fun _ => pm)
    have pl : ∀ b : Bool, TabOk (if b = true then t1 else { t1 with plain := false }) (L1.map fun p => tH P w p.2) ∧ (if b = true then t1 else { t1 with plain := false }).mask = t.mask ∧ (if b = true then t1 else { t1 with plain := false }).led = t.led ∧ (if b = true then t1 else { t1 with plain := false }).fill = L.length + 1 := fun b => by
      rw [List.length_map] at q9
      cases b with
      | true => exact ⟨q3, q4, q5, q9⟩
      | false => exact ⟨⟨q3.ris, q3.dm, q3.sz, q3.mok, q3.bd, q3.reach⟩, q4, q5, q9⟩
    cases hp : t1.plain with
    | true =>
      refine wpAny_bind (hashByT hx fun r => ?_)
      obtain ⟨a1, a2, a3, a4⟩ := pl r
      exact stp _ a1 a2 a3 a4
    | false =>
      refine wpAny_bind (wpAny_pure ?_)
      obtain ⟨a1, a2, a3, a4⟩ := pl true
      exact stp _ a1 a2 a3 a4
end
structure StT (P : Program) (w : World) (h : Heap) (a : Addr) (L : List (Value × List Key)) : Prop where
  ex : ∃ es ep t, TSet P w h a L es ep t
def kndT (P : Program) (w : World) : Knd P w (List Key) where
  is := isTp P w
  St := StT P w
  most := 75
  small := by decide
  isKeep := fun {h h' k v} hv kp => by
    obtain ⟨b, e, o, its, n, ho, r⟩ := hv
    exact ⟨b, e, o, its, n, kp b o ho, r⟩
  isSame := fun {h h' a L k v} hv st sb => by
    obtain ⟨es, ep, t, R⟩ := st.ex
    obtain ⟨o, ho, exa, hd⟩ := R.ob
    exact isTp_same hv ho hd sb
  tb := fun {h a L} st => by
    obtain ⟨es, ep, t, R⟩ := st.ex
    obtain ⟨o, ho, exa, hd⟩ := R.ob
    have R' : TSet P w ({ heap := h } : Shared).heap a L es ep t := R
    have sz := R'.size
    have rm := R'.room
    refine ⟨es, ep, t, ⟨o, ho, exa.1, hd⟩, R'.fits, ?_, R.tab.ris, R.led, by rw [R.rows, List.map_map]; rfl⟩
    unfold scanBound
    rcases R.tab.mok with e | e | e <;> omega
  nd := fun st => by
    obtain ⟨es, ep, t, R⟩ := st.ex
    exact R.nd
  new := fun {h a} ho => ⟨#[], 0, _, ⟨_, ho, ⟨rfl, rfl, rfl⟩, rfl⟩, rfl, ⟨List.Pairwise.nil, rfl, rfl, .inl rfl, fun x hx => (by cases hx), fun i h j hi => (by simp at hi)⟩, by
    show _ ∨ (!w.params.followText "set-order") = true
    cases w.params.followText "set-order"
    · exact .inr rfl
    · exact .inl rfl, by show 0 * 5 < 7 * 3; decide, fun p hp => (by cases hp), List.nodup_nil⟩
  keep := fun {h h' a L} st k => by
    obtain ⟨es, ep, t, R⟩ := st.ex
    obtain ⟨o, ho, r⟩ := R.ob
    refine ⟨es, ep, t, ⟨o, k a o ho (.inl rfl), r⟩, R.rows, R.tab, R.led, R.room, fun p hp => ?_, R.nd⟩
    obtain ⟨b, e, o', its, n, ho', r'⟩ := R.is p hp
    exact ⟨b, e, o', its, n, k b o' ho' (.inr ⟨p, hp, e⟩), r'⟩
  add := fun {A X s a L x k Q} un st hx few hQ => by
    obtain ⟨es, ep, t, R⟩ := st.ex
    obtain ⟨b, rfl, hb⟩ := hx
    unfold setAdd
    refine wpAny_holding (wpAny_bind (wpAny_pyHash_tuple un hb ?_))
    exact addT (s := { s with toks := s.toks + (k.length + 1) }) R hb un few fun r h' L' es' ep' t' sb R' c1 c2 => hQ r h' L' (s.toks + (k.length + 1)) (Nat.le_add_right _ _) sb ⟨es', ep', t', R'⟩ c1 c2
end DL

set_option Elab.async false
set_option linter.all false
set_option maxRecDepth 100000
set_option maxHeartbeats 1000000
/-! DSe: len(set(e)), sorted(set(e)), sorted(e) by data -/
namespace DL
open PySem PySem.Spec PyProof.Rows L2
open PySem.W (AllAlike Sortable dataLe dataLt EachIs)
/-- a datum that is a key -/
def isKeyD : PyData → Bool
  | .int _ => true
  | .str _ => true
  | _ => false
def keyD : PyData → Key
  | .int i => .inl i
  | .str x => .inr x
  | _ => .inl 0
/-- a datum that can be in a set here: a tuple of keys -/
def tupD : PyData → Bool
  | .tuple ds => ds.all isKeyD
  | _ => false
def keysD : PyData → List Key
  | .tuple ds => ds.map keyD
  | _ => []
theorem keyD_inj {a b : PyData} (ha : isKeyD a = true) (hb : isKeyD b = true) (h : keyD a = keyD b) : a = b := by
  cases a <;> cases ha <;> cases b <;> cases hb
  · rw [Sum.inl.inj h]
  · exact nomatch h
  · exact nomatch h
  · rw [Sum.inr.inj h]
theorem keysD_inj {a b : PyData} (ha : tupD a = true) (hb : tupD b = true) (h : keysD a = keysD b) : a = b := by
  have key : ∀ xs ys : List PyData, xs.all isKeyD = true → ys.all isKeyD = true → xs.map keyD = ys.map keyD → xs = ys := by
    intro xs
    induction xs with
    | nil => intro ys _ _ e; cases ys with | nil => rfl | cons y r => cases e
    | cons x r ih =>
      intro ys h1 h2 e
      cases ys with
      | nil => cases e
      | cons y r2 =>
        rw [List.all_cons, Bool.and_eq_true] at h1 h2
        rw [List.map_cons, List.map_cons, List.cons.injEq] at e
        rw [keyD_inj h1.1 h2.1 e.1, ih r2 h1.2 h2.2 e.2]
  match a, b, ha, hb, h with
  | .tuple xs, .tuple ys, ha, hb, h => rw [key xs ys ha hb h]
theorem DpAll.len {K : PySem.W.Frag} {H : Hp} : ∀ {xs : List V} {ds : List PyData}, DpAll K H xs ds → xs.length = ds.length
  | _, _, .nil => rfl
  | _, _, .cons _ r => by rw [List.length_cons, List.length_cons, DpAll.len r]
section
variable {X : Cx} {pins : List (Addr × Obj)} {σ : L2.St} {H : Hp} {s : Shared}
theorem dp_key {x : V} {d : PyData} {u : Value} (h : Dp X.K H x d) (hd : isKeyD d = true) (r : RelV x u) : keyIs (keyD d) u = true := by
  cases h with
  | int i => obtain ⟨t, rfl⟩ := r; exact keyIs_int i t
  | str z => obtain ⟨t, rfl⟩ := r; exact keyIs_str z t
  | _ => cases hd
theorem dp_keys : ∀ {xs : List V} {ds : List PyData} {us : List Value}, DpAll X.K H xs ds → ds.all isKeyD = true → Vals xs us → ItemsAre (mixKind X.prog X.w) (ds.map keyD) us
  | _, _, _, .nil, _, .nil => .nil
  | _, _, _, .cons h r, hd, .cons rv rr => by
    rw [List.all_cons, Bool.and_eq_true] at hd
    exact .cons (dp_key h hd.1 rv) (dp_keys r hd.2 rr)
theorem dp_tup (I : Inv X pins σ H s) {x : V} {d : PyData} {u : Value} (h : Dp X.K H x d) (hd : tupD d = true) (r : RelV x u) : isTp X.prog X.w s.heap (keysD d) u := by
  cases h with
  | @tup a xs ds h1 h2 =>
    obtain rfl : u = Value.ref a := r
    obtain ⟨its, rv, ⟨o, ho, hc, n, hd'⟩, _⟩ := I.tuple h1
    exact ⟨a, rfl, o, its.toArray, n, ho, hc, hd', by rw [List.toList_toArray]; exact dp_keys h2 hd rv⟩
  | _ => cases hd
end
/-- the items xs read as ds, all of which can be in one set -/
def SetD (K : PySem.W.Frag) (H : Hp) (xs : List V) (ds : List PyData) : Prop := DpAll K H xs ds ∧ ((∀ d ∈ ds, isKeyD d = true) ∧ ds.length ≤ 3900 ∨ (∀ d ∈ ds, tupD d = true) ∧ ds.length ≤ 70)
/-- ys are the items of xs, each kind once -/
structure Once (xs ys : List (V × PyData)) : Prop where
  sub : ∀ p ∈ ys, p ∈ xs
  all : ∀ p ∈ xs, p.2 ∈ ys.map (·.2)
  nd : (ys.map (·.2)).Nodup
theorem vals_zip : ∀ {xs : List V} {ds : List PyData} {us : List Value} {K : PySem.W.Frag} {H : Hp}, DpAll K H xs ds → Vals xs us → ∃ L : List (Value × (V × PyData)), L.map (·.1) = us ∧ L.map (·.2) = xs.zip ds ∧ ∀ p ∈ L, RelV p.2.1 p.1 ∧ Dp K H p.2.1 p.2.2
  | _, _, _, _, _, .nil, .nil => ⟨[], rfl, rfl, fun _ h => by cases h⟩
  | x :: xs, d :: ds, u :: us, _, _, .cons h r, .cons rv rr => by
    obtain ⟨L, e1, e2, e3⟩ := vals_zip r rr
    refine ⟨(u, (x, d)) :: L, by rw [List.map_cons, e1], by rw [List.map_cons, e2]; rfl, fun p hp => ?_⟩
    rcases List.mem_cons.mp hp with z | z
    · rw [z]; exact ⟨rv, h⟩
    · exact e3 p z
section
variable {X : Cx} {pins : List (Addr × Obj)} {σ : L2.St} {H : Hp} {s : Shared} {A : Around} {E : Value → Shared → Prop}
/-- what set(l) leaves -/
structure MadeSet (w : World) (s : Shared) (h' : Heap) (L0 : List (Value × (V × PyData))) (L : List (Value × (V × PyData))) : Prop where
  tb : Tb w h' s.heap.objs.size (L.map (·.1))
  ex : ∀ o, h'.get? s.heap.objs.size = some o → o.ExactSet
  sub : ∀ p ∈ L, p ∈ L0
  all : ∀ p ∈ L0, p.2.2 ∈ L.map (·.2.2)
  nd : (L.map (·.2.2)).Nodup
  kp : ∀ b o, s.heap.get? b = some o → h'.get? b = some o
theorem made_of {E0 : Type} (κ : Knd X.prog X.w E0) (kf : PyData → E0) (good : PyData → Bool) (inj : ∀ a b, good a = true → good b = true → kf a = kf b → a = b) (hex : ∀ {h a L}, κ.St h a L → ∀ o, h.get? a = some o → o.ExactSet)
    (iss : ∀ {x d u}, Dp X.K H x d → good d = true → RelV x u → κ.is s.heap (kf d) u) (I : Inv X pins σ H s) {l : Addr} {xs : List V} {ds : List PyData} {Q : Value → Shared → Prop} (hh : A.handled = none) (hu : A.units + 3 < cLine)
    (hl : SqL X.K H l xs) (hd : DpAll X.K H xs ds) (hg : ∀ d ∈ ds, good d = true) (few : ds.length + 1 < κ.most)
    (q : ∀ h' tk L0 L, L0.map (·.2) = xs.zip ds → (∀ p ∈ L0, RelV p.2.1 p.1 ∧ Dp X.K H p.2.1 p.2.2) → MadeSet X.w s h' L0 L → Q (.ref s.heap.objs.size) { s with heap := h', toks := tk }) :
    wpAny (model X.prog X.w) A (call (.type "set") [.ref l]) Q E s := by
  obtain ⟨its, rv, hT, _⟩ := I.list hl
  obtain ⟨L0, e1, e2, e3⟩ := vals_zip hd rv
  have hz : L0.length = ds.length := by
    have z := congrArg List.length e2
    rw [List.length_map, List.length_zip] at z
    have y := DpAll.len hd
    omega
  have g0 : ∀ p ∈ L0, good p.2.2 = true := fun p hp => by
    have z : p.2 ∈ xs.zip ds := by rw [← e2]; exact List.mem_map.mpr ⟨p, hp, rfl⟩
    exact hg _ (List.of_mem_zip z).2
  refine call_setof κ (L0.map fun p => (p.1, kf p.2.2)) hh hT.isList (by rw [List.map_map, ← e1]; simp [Function.comp_def]) (fun p hp => ?_) (by rw [List.length_map, hz]; exact few) (fun p hp b eb => ?_) hu fun h' tk L st g kp => ?_
  · obtain ⟨p0, h0, rfl⟩ := List.mem_map.mp hp
    exact iss (e3 p0 h0).2 (g0 p0 h0) (e3 p0 h0).1
  · obtain ⟨p0, h0, rfl⟩ := List.mem_map.mp hp
    obtain ⟨rp, dp⟩ := e3 p0 h0
    have eb : p0.1 = .ref b := eb
    rw [eb] at rp
    obtain ⟨as, rd⟩ := Dp.reads I _ _ _ dp rp
    generalize p0.2.2 = d0 at rd
    cases rd <;> exact ⟨_, by assumption⟩
  · have back : ∀ M : List (Value × E0), (∀ p ∈ M, p ∈ L0.map fun p => (p.1, kf p.2.2)) → ∃ M0 : List (Value × (V × PyData)), M = M0.map (fun p => (p.1, kf p.2.2)) ∧ ∀ p ∈ M0, p ∈ L0 := by
      intro M
      induction M with
      | nil => intro _; exact ⟨[], rfl, fun _ h => by cases h⟩
      | cons m r ih =>
        intro hm
        obtain ⟨p0, h0, e0⟩ := List.mem_map.mp (hm m (.head _))
        obtain ⟨M0, a1, a2⟩ := ih fun p hp => hm p (.tail _ hp)
        refine ⟨p0 :: M0, by rw [List.map_cons, ← a1, ← e0], fun p hp => ?_⟩
        rcases List.mem_cons.mp hp with z | z
        · rw [z]; exact h0
        · exact a2 p z
    obtain ⟨M0, b1, b2⟩ := back L fun p hp => List.mem_of_mem_take (g.sub p hp)
    refine q h' tk L0 M0 e2 e3 ⟨?_, hex st, b2, fun p hp => ?_, ?_, kp⟩
    · have z := κ.tb st
      rw [b1, List.map_map] at z
      exact z
    · have z := g.all (p.1, kf p.2.2) (by rw [List.take_of_length_le (Nat.le_refl _)]; exact List.mem_map.mpr ⟨p, hp, rfl⟩)
      rw [b1, List.map_map] at z
      obtain ⟨m, hm, em⟩ := List.mem_map.mp z
      refine List.mem_map.mpr ⟨m, hm, inj _ _ (g0 m (b2 m hm)) (g0 p hp) em⟩
    · have z := κ.nd st
      rw [b1, List.map_map] at z
      have z2 : ((M0.map (·.2.2)).map kf).Nodup := by rw [List.map_map]; exact z
      exact List.Pairwise.of_map kf (fun a b hne e => hne (congrArg kf e)) z2
theorem made_set (I : Inv X pins σ H s) {l : Addr} {xs : List V} {ds : List PyData} {Q : Value → Shared → Prop} (hh : A.handled = none) (hu : A.units + 3 < cLine) (hl : SqL X.K H l xs) (hd : SetD X.K H xs ds)
    (q : ∀ h' tk L0 L, L0.map (·.2) = xs.zip ds → (∀ p ∈ L0, RelV p.2.1 p.1 ∧ Dp X.K H p.2.1 p.2.2) → MadeSet X.w s h' L0 L → Q (.ref s.heap.objs.size) { s with heap := h', toks := tk }) :
    wpAny (model X.prog X.w) A (call (.type "set") [.ref l]) Q E s := by
  obtain ⟨hd, ⟨hk, few⟩ | ⟨hk, few⟩⟩ := hd
  · exact made_of (kndK X.prog X.w) keyD isKeyD (fun a b => keyD_inj) (fun {h a L} st o ho => by
      obtain ⟨o', es, ep, t, ob, exa, _⟩ := StK.ex st
      rw [ob] at ho
      rw [← Option.some.inj ho]
      exact exa) (fun h g r => dp_key h g r) I hh hu hl hd hk (by show _ < 4000; omega) q
  · exact made_of (kndT X.prog X.w) keysD tupD (fun a b => keysD_inj) (fun {h a L} st o ho => by
      obtain ⟨es, ep, t, R⟩ := StT.ex st
      obtain ⟨o', ob, exa, _⟩ := R.ob
      rw [ob] at ho
      rw [← Option.some.inj ho]
      exact exa) (fun h g r => dp_tup I h g r) I hh hu hl hd hk (by show _ < 75; omega) q
end
end DL

set_option Elab.async false
set_option linter.all false
set_option maxRecDepth 100000
set_option maxHeartbeats 1000000
/-! DSf: the readings of len(set(e)), sorted(set(e)), sorted(e) -/
namespace DL
open PySem PySem.Spec PyProof.Rows L2
open PySem.W (AllAlike Sortable dataLe dataLt EachIs)
/-- len(set(e)) -/
def tLenSet (K : PySem.W.Frag) (te : TE) : TE := fun σ H Q => te σ H fun x H1 => ∃ (l : Addr) (xs : List V) (ds : List PyData), x = .ref l ∧ SqL K H1 l xs ∧ SetD K H1 xs ds ∧
  ∀ n : Nat, (∃ es : List PyData, es.length = n ∧ es.Nodup ∧ (∀ d, d ∈ es ↔ d ∈ ds)) → Q (.int (n : Int)) H1
/-- sorted(set(e)) -/
def tSortSet (K : PySem.W.Frag) (te : TE) : TE := fun σ H Q => te σ H fun x H1 => ∃ (l : Addr) (xs : List V) (ds : List PyData), x = .ref l ∧ SqL K H1 l xs ∧ SetD K H1 xs ds ∧ AllAlike ds ∧ Sortable ds ∧
  ∀ (l' : Addr) (ys : List (V × PyData)), H1 l' = none → (∀ p ∈ ys, p ∈ xs.zip ds) → (∀ d ∈ ds, d ∈ ys.map (·.2)) → (ys.map (·.2)).Nodup → (ys.map (·.2)).Pairwise (fun a b => dataLt b a = false) → Q (.ref l') (upd H1 l' (.lst (ys.map (·.1))))
/-- sorted(e), e a list -/
def uSorted (K : PySem.W.Frag) : List V → Hp → VK → Prop := fun vs H Q => ∃ (l : Addr) (xs : List V) (ds : List PyData), vs = [.ref l] ∧ SqL K H l xs ∧ DpAll K H xs ds ∧ AllAlike ds ∧ Sortable ds ∧ (∀ d ∈ ds, d.depth ≤ 50) ∧
  ∀ l', H l' = none → Q (.ref l') (upd H l' (.lst (((xs.zip ds).mergeSort (dataLe false (·.2))).map (·.1))))
theorem mem_zip_snd {α β : Type} : ∀ {xs : List α} {ds : List β} {d : β}, xs.length = ds.length → d ∈ ds → ∃ x, (x, d) ∈ xs.zip ds
  | [], [], _, _, h => by cases h
  | x :: xs, e :: ds, d, hl, h => by
    rcases List.mem_cons.mp h with z | z
    · exact ⟨x, by rw [z]; exact .head _⟩
    · obtain ⟨y, hy⟩ := mem_zip_snd (xs := xs) (by simpa using hl) z
      exact ⟨y, .tail _ hy⟩
theorem depth_set {K : PySem.W.Frag} {H : Hp} {xs : List V} {ds : List PyData} (h : SetD K H xs ds) : ∀ d ∈ ds, d.depth ≤ 1 := by
  have k0 : ∀ d, isKeyD d = true → d.depth = 0 := fun d hd => by cases d <;> first | rfl | cases hd
  have kall : ∀ ds : List PyData, ds.all isKeyD = true → PyData.depthAll ds = 0 := by
    intro ds
    induction ds with
    | nil => intro _; rfl
    | cons d r ih =>
      intro h
      rw [List.all_cons, Bool.and_eq_true] at h
      rw [PyData.depthAll, ih h.2, k0 d h.1]
      rfl
  obtain ⟨_, ⟨hk, _⟩ | ⟨hk, _⟩⟩ := h
  · intro d hd
    rw [k0 d (hk d hd)]
    exact Nat.zero_le _
  · intro d hd
    have := hk d hd
    match d, this with
    | .tuple es, he =>
      rw [PyData.depth, kall es he]
      exact Nat.le_refl _
theorem reads_nil {K : PySem.W.Frag} {H : Hp} {xs : List V} {ds : List PyData} (h : SetD K H xs ds) {d : PyData} (hd : d ∈ ds) {hp : Heap} {v : Value} {as : List Addr} (r : Reads hp v d as) : as = [] := by
  have k0 : ∀ {d : PyData} {v : Value} {as : List Addr}, isKeyD d = true → Reads hp v d as → as = [] := fun {d v as} hk r => by
    cases r <;> first | rfl | cases hk
  have kall : ∀ {ds : List PyData} {vs : List Value} {as : List Addr}, ds.all isKeyD = true → ReadsAll hp vs ds as → as = [] := fun {ds} => by
    induction ds with
    | nil => intro vs as _ r; cases r; rfl
    | cons d ds ih =>
      intro vs as hk r
      rw [List.all_cons, Bool.and_eq_true] at hk
      cases r with
      | cons r1 r2 => rw [k0 hk.1 r1, ih hk.2 r2]; rfl
  obtain ⟨_, ⟨hk, _⟩ | ⟨hk, _⟩⟩ := h
  · exact k0 (hk d hd) r
  · have := hk d hd
    match d, this, r with
    | .tuple es, he, r =>
      cases r with
      | tuple _ _ _ r4 => exact kall he r4
theorem dataLe_trans {β : Type} (k : β → PyData) (a b c : β) (h1 : dataLe false k a b = true) (h2 : dataLe false k b c = true) : dataLe false k a c = true := (PySem.W.sortLe_total _ _ _).trans a b c h1 h2
theorem dataLe_total {β : Type} (k : β → PyData) (a b : β) : (dataLe false k a b || dataLe false k b a) = true := by
  rw [Bool.or_eq_true]
  exact (PySem.W.sortLe_total _ _ _).total a b
theorem eachis_map {α β γ : Type} {R : α → β → Prop} (f : γ → α) (g : γ → β) : ∀ l : List γ, (∀ c ∈ l, R (f c) (g c)) → EachIs R (l.map f) (l.map g)
  | [], _ => .nil
  | c :: r, h => .cons (h c (.head _)) (eachis_map f g r fun x hx => h x (.tail _ hx))
theorem eachis_vals {P : Value → (V × PyData) → Prop} (hP : ∀ u p, P u p → RelV p.1 u) : ∀ {us : List Value} {ps : List (V × PyData)}, EachIs P us ps → Vals (ps.map (·.1)) us
  | _, _, .nil => .nil
  | _, _, .cons h r => .cons (hP _ _ h) (eachis_vals hP r)
section
variable {X : Cx} {a : Expr} {ta : TE} {p p2 q pos : Pos} {K : PySem.W.Frag}
theorem pe_lenSet (hK : X.K = K) (hc : X.calm = true) (hu : X.A.units + 64 < cLine) (hg : Gl X "len") (hm : X.mg "len" = none) (hg2 : Gl X "set") (hm2 : X.mg "set" = none) (ha : PE X a ta)
    (na : starEach [a] X.env = (false, eval a X.env) :: starEach [] X.env := by rfl) : PE X (.Call (.Name "len" p) [.Call (.Name "set" p2) [a] [] q] [] pos) (tLenSet K ta) := by
  subst hK
  refine ⟨fun pins s σ H Q I h => ?_⟩
  refine Call_ (ld_blt I hg hm boot_len ?_)
  refine PyProof.Rows.callWith_builtin1 (PyProof.Rows.args_cons ?_ rfl) rfl rfl
  refine Call_ (ld_blt I hg2 hm2 boot_set ?_)
  refine PyProof.Rows.callWith_type1 (PyProof.Rows.args_cons (thn (ha.run pins s σ H _ I h) fun v s1 ⟨x, H1, I1, r1, q1⟩ => PyProof.Rows.args_nil ?_) na) na rfl
  obtain ⟨l, xs, ds, rfl, hl, hd, q1⟩ := q1
  cases r1
  refine made_set I1 (I1.ok.hd hc) (by omega) hl hd fun h' tk L0 L e1 e2 M => ?_
  refine PyProof.Rows.args_nil ?_
  have I2 : Inv X pins σ H1 { s1 with heap := h', toks := tk } := I1.kept fun b o e => M.kp b o e
  have q2 := q1 L.length ⟨L.map (·.2.2), by rw [List.length_map], M.nd, fun d => ⟨fun hd' => ?_, fun hd' => ?_⟩⟩
  · refine call_lenof (s := { s1 with heap := h', toks := tk }) M.tb M.ex ⟨.int L.length, H1, I2.tok _, ⟨_, by rw [List.length_map]⟩, q2⟩
  · obtain ⟨m, hm', rfl⟩ := List.mem_map.mp hd'
    have z : m.2 ∈ xs.zip ds := by rw [← e1]; exact List.mem_map.mpr ⟨m, M.sub m hm', rfl⟩
    exact (List.of_mem_zip z).2
  · obtain ⟨x, hx⟩ := mem_zip_snd (DpAll.len hd.1) hd'
    rw [← e1] at hx
    obtain ⟨m, hm', em⟩ := List.mem_map.mp hx
    have z := M.all m hm'
    rw [em] at z
    exact z
theorem pe_sortSet (hK : X.K = K) (hc : X.calm = true) (hu : X.A.units + 64 < cLine) (hg : Gl X "sorted") (hm : X.mg "sorted" = none) (hg2 : Gl X "set") (hm2 : X.mg "set" = none) (ha : PE X a ta)
    (na : starEach [a] X.env = (false, eval a X.env) :: starEach [] X.env := by rfl) : PE X (.Call (.Name "sorted" p) [.Call (.Name "set" p2) [a] [] q] [] pos) (tSortSet K ta) := by
  subst hK
  refine ⟨fun pins s σ H Q I h => ?_⟩
  refine Call_ (ld_blt I hg hm boot_sorted ?_)
  refine PyProof.Rows.callWith_builtin1 (PyProof.Rows.args_cons ?_ rfl) rfl rfl
  refine Call_ (ld_blt I hg2 hm2 boot_set ?_)
  refine PyProof.Rows.callWith_type1 (PyProof.Rows.args_cons (thn (ha.run pins s σ H _ I h) fun v s1 ⟨x, H1, I1, r1, q1⟩ => PyProof.Rows.args_nil ?_) na) na rfl
  obtain ⟨l, xs, ds, rfl, hl, hd, hal, hso, q1⟩ := q1
  cases r1
  refine made_set I1 (I1.ok.hd hc) (by omega) hl hd fun h' tk L0 L e1 e2 M => ?_
  refine PyProof.Rows.args_nil ?_
  have I2 : Inv X pins σ H1 { s1 with heap := h', toks := tk } := I1.kept fun b o e => M.kp b o e
  obtain ⟨es, ep, t, hat, hf, hb, hr, hle, hv⟩ := M.tb.ex
  refine Calls.call_function_entry kind_sorted plain_sorted entry_sorted (args_sorted1 _) ?_
  unfold Builtin.«sorted»
  refine wpAny_bind (m := checkCount "sorted" 1 1 _) (wpAny_pure ?_)
  refine wpAny_bind (collect_set (A := X.A.in1) (s := { s1 with heap := h', toks := tk }) (I1.ok.hd hc) hat hf hb hr hle fun s2 vs k1 hz g1 o1 pm => ?_)
  rw [hv] at pm
  obtain ⟨N, n1, n2⟩ := perm_back (fun p : Value × (V × PyData) => p.1) pm L rfl
  subst n1
  have inL : ∀ m ∈ N, m ∈ L := fun m hm' => n2.mem_iff.mp hm'
  have dsm : ∀ m ∈ N, m.2.2 ∈ ds := fun m hm' => by
    have z : m.2 ∈ xs.zip ds := by rw [← e1]; exact List.mem_map.mpr ⟨m, M.sub m (inL m hm'), rfl⟩
    exact (List.of_mem_zip z).2
  have nl : N.length ≤ 4096 := by
    rw [n2.length_eq]
    have z := congrArg List.length hv
    rw [List.length_map, List.length_map, Array.length_toList] at z
    rw [← z]
    exact Nat.le_of_lt hb
  refine wpAny_bind (wpAny_newList ?_ (by rw [List.length_map, sizeLine_eq]; omega))
  have hoL : (s2.heap.push (seqObj "list" (N.map (·.1)).toArray 0)).get? s2.heap.objs.size = some (seqObj "list" (N.map (·.1)).toArray 0) := Heap.get?_push_size _ rfl
  have rd0 : ∀ m ∈ N, ∃ as, Reads s1.heap m.1 m.2.2 as := fun m hm' => by
    obtain ⟨ra, rb⟩ := e2 m (M.sub m (inL m hm'))
    exact Dp.reads I1 _ _ _ rb ra
  refine wpAny_bind (wpAny_holding (PySem.W.list_sort_data (s := { s2 with heap := s2.heap.push (seqObj "list" (N.map (·.1)).toArray 0) }) (bs := N) (enc := fun m => m.2.2) (R := fun u m => u = m.1 ∧ m ∈ N) hoL ?_ ?_ ?_ ?_ ?_ ?_ ?_))
  · have z := eachis_map (R := fun (u : Value) (m : Value × (V × PyData)) => u = m.1 ∧ m ∈ N) (·.1) id N fun c hc' => ⟨rfl, hc'⟩
    rwa [List.map_id] at z
  · have z := eachis_map (R := fun (u : Value) (m : Value × (V × PyData)) => ∃ as, Reads (s2.heap.push (seqObj "list" (N.map (·.1)).toArray 0)) u m.2.2 as ∧ s2.heap.objs.size ∉ as) (·.1) id N fun c hc' => by
      obtain ⟨as, ra⟩ := rd0 c hc'
      have rb := PyProof.Rows.Reads.keeps (h' := s2.heap.push (seqObj "list" (N.map (·.1)).toArray 0)) (fun b o e => Heap.get?_push_of_some _ (k1 b o (M.kp b o e))) ra
      rw [reads_nil hd (dsm c hc') ra] at rb
      exact ⟨_, rb, fun hin => by cases hin⟩
    rwa [List.map_id] at z
  · intro d hd1 d' hd2
    obtain ⟨m, hm1, rfl⟩ := List.mem_map.mp hd1
    obtain ⟨m', hm2', rfl⟩ := List.mem_map.mp hd2
    exact hal _ (dsm m hm1) _ (dsm m' hm2')
  · rcases hso with z | z
    · refine .inl fun d hd1 => ?_
      obtain ⟨m, hm1, rfl⟩ := List.mem_map.mp hd1
      exact z _ (dsm m hm1)
    · refine .inr fun d hd1 => ?_
      obtain ⟨m, hm1, rfl⟩ := List.mem_map.mp hd1
      exact z _ (dsm m hm1)
  · rw [sizeLine_eq]; omega
  · intro m hm'
    have z := depth_set hd _ (dsm m hm')
    show X.A.units + 1 + 1 + _ < _
    omega
  · intro out ol eo
    refine wpAny_pure ⟨_, rfl, ?_⟩
    have hp0 : s1.heap.objs.size < s2.heap.objs.size := by
      obtain ⟨o, ho, _⟩ := hat
      exact Nat.lt_of_lt_of_le (Heap.lt_size ho) hz
    have hn : H1 s2.heap.objs.size = none := I1.hok.fresh (Nat.le_of_lt hp0)
    obtain ⟨c, hcc⟩ := sortedHeap_at (vs := N.map (·.1)) (out := out.toArray) hoL
    have sN : ∀ m ∈ N.mergeSort (dataLe false fun m => m.2.2), m ∈ N := fun m hm' => (List.mergeSort_perm _ _).mem_iff.mp hm'
    have hv2 : Vals (((N.mergeSort (dataLe false fun m => m.2.2)).map (·.2)).map (·.1)) out := by
      rw [List.map_map]
      have key : ∀ {us : List Value} {ms : List (Value × (V × PyData))}, EachIs (fun u m => u = m.1 ∧ m ∈ N) us ms → Vals (ms.map ((·.1) ∘ (·.2))) us := by
        intro us ms e
        induction e with
        | nil => exact .nil
        | cons h _ ih =>
          refine .cons ?_ ih
          rw [h.1]
          exact (e2 _ (M.sub _ (inL _ h.2))).1
      exact key eo
    have kk : ∀ b o, s1.heap.get? b = some o → (sortedHeap (s2.heap.push (seqObj "list" (N.map (·.1)).toArray 0)) s2.heap.objs.size (N.map (·.1)) out.toArray).get? b = some o := fun b o e => by
      have z := k1 b o (M.kp b o e)
      have lt := Heap.lt_size z
      rw [sortedHeap_old (Nat.ne_of_lt lt) (by rw [Heap.size_push]; exact Nat.lt_succ_of_lt lt)]
      exact Heap.get?_push_of_some _ z
    have len2 : (((N.mergeSort (dataLe false fun m => m.2.2)).map (·.2)).map (·.1)).length ≤ sizeLine := by
      rw [List.length_map, List.length_map, (List.mergeSort_perm _ _).length_eq, sizeLine_eq]
      omega
    have J : Inv X pins σ (upd H1 s2.heap.objs.size (.lst (((N.mergeSort (dataLe false fun m => m.2.2)).map (·.2)).map (·.1)))) { s1 with heap := sortedHeap (s2.heap.push (seqObj "list" (N.map (·.1)).toArray 0)) s2.heap.objs.size (N.map (·.1)) out.toArray, gens := s2.gens, drawn := s2.drawn, toks := s2.toks } :=
      I1.call (ch := []) (Un.laid kk (Nat.le_of_lt hp0) hn) (I1.hok.laid kk (Nat.le_of_lt hp0) ⟨len2, out, c, hv2, hcc⟩) (by rw [g1]; exact I1.bare) (fun _ z => nomatch z)
    have es2 : s2.os = s1.os := o1
    dsimp only
    rw [es2]
    refine ⟨.ref _, _, J, rfl, q1 _ _ hn (fun p hp => ?_) (fun d hd1 => ?_) ?_ ?_⟩
    · obtain ⟨m, hm1, rfl⟩ := List.mem_map.mp hp
      rw [← e1]
      exact List.mem_map.mpr ⟨m, M.sub m (inL m (sN m hm1)), rfl⟩
    · obtain ⟨x, hx⟩ := mem_zip_snd (DpAll.len hd.1) hd1
      rw [← e1] at hx
      obtain ⟨m, hm', em⟩ := List.mem_map.mp hx
      have z := M.all m hm'
      rw [em] at z
      obtain ⟨m2, hm2', em2⟩ := List.mem_map.mp z
      rw [List.map_map]
      exact List.mem_map.mpr ⟨m2, (List.mergeSort_perm _ _).mem_iff.mpr (n2.mem_iff.mpr hm2'), em2⟩
    · rw [List.map_map]
      exact ((((List.mergeSort_perm _ _).trans n2).map _).nodup_iff).mpr M.nd
    · rw [List.map_map, List.pairwise_map]
      refine List.Pairwise.imp ?_ (List.pairwise_mergeSort (le := dataLe false fun m : Value × (V × PyData) => m.2.2) (dataLe_trans _) (dataLe_total _) N)
      intro m m' hle'
      have z : (!dataLt m'.2.2 m.2.2) = true := hle'
      simpa using z
theorem cu_sorted (hK : X.K = K) (hu : X.A.units + 64 < cLine) : CallR X (.builtin "sorted") (uSorted K) := by
  subst hK
  intro pins s σ H vs us Q I r h
  obtain ⟨l, xs, ds, rfl, hl, hd, hal, hso, hdp, q⟩ := h
  rw [Vals.ref1 r]
  obtain ⟨its, rv, hT, hz⟩ := I.list hl
  obtain ⟨L0, e1, e2, e3⟩ := vals_zip hd rv
  have lz : (xs.zip ds).length = its.length := by rw [← e2, ← e1, List.length_map, List.length_map]
  have lx : its.length = xs.length := rv.length.symm
  have inD : ∀ p ∈ xs.zip ds, p.2 ∈ ds := fun p hp => (List.of_mem_zip hp).2
  refine PySem.W.sorted_data (bs := xs.zip ds) (enc := (·.2)) (R := fun u p => RelV p.1 u) hT.isList ?_ ?_ ?_ ?_ ?_ ?_ fun out ol eo => ?_
  · rw [← e1, ← e2]
    exact eachis_map (R := fun (u : Value) (p : V × PyData) => RelV p.1 u) (·.1) (·.2) L0 fun c hc => (e3 c hc).1
  · rw [← e1, ← e2]
    exact eachis_map (R := fun (u : Value) (p : V × PyData) => ∃ as, Reads s.heap u p.2 as) (·.1) (·.2) L0 fun c hc => Dp.reads I _ _ _ (e3 c hc).2 (e3 c hc).1
  · intro d hd1 d' hd2
    obtain ⟨m, hm1, rfl⟩ := List.mem_map.mp hd1
    obtain ⟨m', hm2, rfl⟩ := List.mem_map.mp hd2
    exact hal _ (inD m hm1) _ (inD m' hm2)
  · rcases hso with z | z
    · refine .inl fun d hd1 => ?_
      obtain ⟨m, hm1, rfl⟩ := List.mem_map.mp hd1
      exact z _ (inD m hm1)
    · refine .inr fun d hd1 => ?_
      obtain ⟨m, hm1, rfl⟩ := List.mem_map.mp hd1
      exact z _ (inD m hm1)
  · rw [lz, lx]; exact hz
  · intro m hm
    have z := hdp _ (inD m hm)
    omega
  · obtain ⟨ep, he'⟩ := PyProof.Rows.sortedAll_at s.heap its out.toArray
    have len2 : (((xs.zip ds).mergeSort (dataLe false (·.2))).map (·.1)).length ≤ sizeLine := by
      rw [List.length_map, (List.mergeSort_perm _ _).length_eq, lz, lx]
      exact hz
    exact ⟨.ref _, upd H (s.heap.objs.size + 1) (.lst (((xs.zip ds).mergeSort (dataLe false (·.2))).map (·.1))), I.laid (t' := s.toks) (fun _ _ => PyProof.Rows.sortedAll_old) (Nat.le_succ _) ⟨len2, out, ep, eachis_vals (fun _ _ h => h) eo, he'⟩, rfl, q _ (I.hok.fresh (Nat.le_succ _))⟩
end
end DL

set_option Elab.async false
set_option linter.all false
set_option maxRecDepth 100000
set_option maxHeartbeats 1000000
/-! DSg: sets and sorting by data -/
namespace DL
open PySem PySem.Spec PyProof.Rows L2
open PySem.W (AllAlike Sortable dataLe dataLt EachIs)
open Evl (Ex)
/-- each once -/
def ded {β : Type} [DecidableEq β] : List β → List β
  | [] => []
  | x :: r => if x ∈ r then ded r else x :: ded r
section
variable {β : Type} [DecidableEq β]
theorem mem_ded {x : β} : ∀ {l : List β}, x ∈ ded l ↔ x ∈ l
  | [] => Iff.rfl
  | y :: r => by
    have ih := mem_ded (x := x) (l := r)
    unfold ded
    split
    · rename_i h
      rw [ih, List.mem_cons]
      exact ⟨.inr, fun z => z.elim (fun e => e ▸ h) id⟩
    · rw [List.mem_cons, List.mem_cons, ih]
theorem nodup_ded : ∀ l : List β, (ded l).Nodup
  | [] => List.nodup_nil
  | y :: r => by
    unfold ded
    split
    · exact nodup_ded r
    · rename_i h
      exact List.nodup_cons.mpr ⟨fun z => h (mem_ded.mp z), nodup_ded r⟩
theorem ded_nodup : ∀ {l : List β}, l.Nodup → ded l = l
  | [], _ => rfl
  | y :: r, h => by
    obtain ⟨h1, h2⟩ := List.nodup_cons.mp h
    unfold ded
    rw [if_neg h1, ded_nodup h2]
theorem ded_len : ∀ l : List β, (ded l).length ≤ l.length
  | [] => Nat.le_refl _
  | y :: r => by
    have ih := ded_len r
    unfold ded
    split
    · rw [List.length_cons]; omega
    · rw [List.length_cons, List.length_cons]; omega
theorem ded_all {l : List β} : (ded l).length = l.length ↔ l.Nodup := by
  constructor
  · intro h
    induction l with
    | nil => exact List.nodup_nil
    | cons y r ih =>
      unfold ded at h
      split at h
      · have := ded_len r
        rw [List.length_cons] at h
        omega
      · rename_i hy
        rw [List.length_cons, List.length_cons] at h
        exact List.nodup_cons.mpr ⟨hy, ih (by omega)⟩
  · intro h; rw [ded_nodup h]
end
/-- a rising row of the same things is the same row -/
theorem sort_one {α : Type} {lt : α → α → Prop} : ∀ {l m : List α}, l.Perm m → l.Pairwise (fun a b => ¬ lt b a) → m.Pairwise lt → l = m
  | [], [], _, _, _ => rfl
  | [], y :: m, p, _, _ => absurd p.length_eq (by simp)
  | x :: l, [], p, _, _ => absurd p.length_eq (by simp)
  | x :: l, y :: m, p, h1, h2 => by
    obtain ⟨a1, a2⟩ := List.pairwise_cons.mp h1
    obtain ⟨b1, b2⟩ := List.pairwise_cons.mp h2
    have e : x = y := Classical.byContradiction fun ne => by
      have hx : x ∈ m := by
        rcases List.mem_cons.mp (p.mem_iff.mp (.head _)) with z | z
        · exact absurd z ne
        · exact z
      have hy : y ∈ l := by
        rcases List.mem_cons.mp (p.mem_iff.mpr (.head _)) with z | z
        · exact absurd z.symm ne
        · exact z
      exact a1 y hy (b1 x hx)
    subst e
    rw [sort_one (p.cons_inv) a2 b2]
/-- things whose data can be in one set -/
structure SetE {β : Type} (enc : β → Dat) (bs : List β) : Prop where
  pl : ∀ b ∈ bs, plainD (enc b) = true
  kd : (∀ b ∈ bs, isKeyD (toPy (enc b)) = true) ∧ bs.length ≤ 3900 ∨ (∀ b ∈ bs, tupD (toPy (enc b)) = true) ∧ bs.length ≤ 70
  inj : ∀ a ∈ bs, ∀ b ∈ bs, toPy (enc a) = toPy (enc b) → a = b
theorem plainDs_map {β : Type} {enc : β → Dat} : ∀ {bs : List β}, (∀ b ∈ bs, plainD (enc b) = true) → plainDs (bs.map enc) = true
  | [], _ => rfl
  | b :: r, h => by
    show (plainD (enc b) && plainDs (r.map enc)) = true
    rw [h b (.head _), plainDs_map fun x hx => h x (.tail _ hx)]
    rfl
theorem setE_D {β : Type} {enc : β → Dat} {bs : List β} {K : PySem.W.Frag} {H : Hp} {xs : List V} (h : SetE enc bs) (r : DRs K H xs (bs.map enc)) : SetD K H xs (bs.map fun b => toPy (enc b)) := by
  have e : toPys (bs.map enc) = bs.map fun b => toPy (enc b) := by rw [toPys_map, List.map_map]; rfl
  refine ⟨by rw [← e]; exact r.dp (plainDs_map h.pl), ?_⟩
  rcases h.kd with ⟨z, l⟩ | ⟨z, l⟩
  · exact .inl ⟨fun d hd => by obtain ⟨b, hb, rfl⟩ := List.mem_map.mp hd; exact z b hb, by rw [List.length_map]; exact l⟩
  · exact .inr ⟨fun d hd => by obtain ⟨b, hb, rfl⟩ := List.mem_map.mp hd; exact z b hb, by rw [List.length_map]; exact l⟩
theorem zip_map {β : Type} (enc : β → Dat) : ∀ L : List (V × β), (L.map (·.1)).zip ((L.map (·.2)).map fun b => toPy (enc b)) = L.map fun p => (p.1, toPy (enc p.2))
  | [] => rfl
  | p :: r => by rw [List.map_cons, List.map_cons, List.map_cons, List.map_cons, List.zip_cons_cons, zip_map enc r]
section
variable {K : PySem.W.Frag} {ρ : List Sl} {te : TE} {β : Type}
theorem s_lenSet [DecidableEq β] {enc : β → Dat} {bs : List β} (h : Sem K te ρ (.lst (bs.map enc))) (hE : SetE enc bs) : Sem K (tLenSet K te) ρ (.int ((ded bs).length : Nat)) := fun G0 B0 σ G H S Q q =>
  h _ _ _ _ _ S _ fun x G1 H1 g1 rx => by
    cases rx with
    | @lst a xs _ h1 r1 =>
      refine ⟨a, xs, _, rfl, .inl (.inl (g1.s _ _ h1)), setE_D hE (r1.mono g1.s), fun n ⟨es, e1, e2, e3⟩ => ?_⟩
      have p : es.Perm ((ded bs).map fun b => toPy (enc b)) := by
        refine (List.perm_ext_iff_of_nodup e2 ?_).mpr fun d => ?_
        · refine List.pairwise_map.mpr (List.Pairwise.imp_of_mem (fun {a b} ha hb ne e => ?_) (nodup_ded bs))
          exact ne (hE.inj a (mem_ded.mp ha) b (mem_ded.mp hb) e)
        · rw [e3 d, List.mem_map, List.mem_map]
          constructor
          · rintro ⟨b, hb, e⟩; exact ⟨b, mem_ded.mpr hb, e⟩
          · rintro ⟨b, hb, e⟩; exact ⟨b, mem_ded.mp hb, e⟩
      have z := p.length_eq
      rw [e1, List.length_map] at z
      rw [z]
      exact q _ _ _ g1 (.int _)
theorem drs_zip {G : Hp} {enc : β → Dat} : ∀ {xs : List V} {bs : List β}, DRs K G xs (bs.map enc) → ∃ L : List (V × β), L.map (·.1) = xs ∧ L.map (·.2) = bs ∧ ∀ p ∈ L, DR K G p.1 (enc p.2)
  | [], [], _ => ⟨[], rfl, rfl, fun _ h => by cases h⟩
  | x :: xs, b :: bs, .cons h r => by
    obtain ⟨L, e1, e2, e3⟩ := drs_zip r
    refine ⟨(x, b) :: L, by rw [List.map_cons, e1], by rw [List.map_cons, e2], fun p hp => ?_⟩
    rcases List.mem_cons.mp hp with z | z
    · rw [z]; exact h
    · exact e3 p z
theorem drs_of {G : Hp} {enc : β → Dat} : ∀ {L : List (V × β)}, (∀ p ∈ L, DR K G p.1 (enc p.2)) → DRs K G (L.map (·.1)) ((L.map (·.2)).map enc)
  | [], _ => .nil
  | p :: r, h => .cons (h p (.head _)) (drs_of fun x hx => h x (.tail _ hx))
theorem sn_sortSet {enc : β → Dat} {bs out : List β} (h : Sem K te ρ (.lst (bs.map enc))) (hE : SetE enc bs) (ha : ∀ a ∈ bs, ∀ b ∈ bs, PySem.W.alike (toPy (enc a)) (toPy (enc b)) = true) (hs : Sortable (bs.map fun b => toPy (enc b)))
    (h1 : out.Nodup) (h2 : ∀ b, b ∈ out ↔ b ∈ bs) (h3 : out.Pairwise fun a b => dataLt (toPy (enc a)) (toPy (enc b)) = true) : SemN K (tSortSet K te) ρ (out.map enc) := fun G0 B0 σ G H S Q q =>
  h _ _ _ _ _ S _ fun x G1 H1 g1 rx => by
    cases rx with
    | @lst a xs _ a1 r1 =>
      obtain ⟨L, l1, l2, l3⟩ := drs_zip r1
      subst l1; subst l2
      refine ⟨a, _, _, rfl, .inl (.inl (g1.s _ _ a1)), setE_D hE (r1.mono g1.s), fun d hd d' hd' => ?_, hs, fun l' ys hl' y1 y2 y3 y4 => ?_⟩
      · obtain ⟨b, hb, rfl⟩ := List.mem_map.mp hd
        obtain ⟨b', hb', rfl⟩ := List.mem_map.mp hd'
        exact ha b hb b' hb'
      · have ez := zip_map enc L
        have ey : ys.map (·.2) = out.map fun b => toPy (enc b) := by
          refine sort_one (lt := fun a b => dataLt a b = true) ((List.perm_ext_iff_of_nodup y3 ?_).mpr fun d => ?_) (y4.imp fun z y => by rw [z] at y; cases y) (List.pairwise_map.mpr h3)
          · exact List.pairwise_map.mpr (List.Pairwise.imp_of_mem (fun {a b} ha' hb' ne e => ne (hE.inj a ((h2 a).mp ha') b ((h2 b).mp hb') e)) h1)
          · constructor
            · intro hd
              obtain ⟨p, hp, rfl⟩ := List.mem_map.mp hd
              have z := y1 p hp
              rw [ez] at z
              obtain ⟨m, hm, em⟩ := List.mem_map.mp z
              rw [← em]
              exact List.mem_map.mpr ⟨m.2, (h2 _).mpr (List.mem_map.mpr ⟨m, hm, rfl⟩), rfl⟩
            · intro hd
              obtain ⟨b, hb, rfl⟩ := List.mem_map.mp hd
              exact y2 _ (List.mem_map.mpr ⟨b, (h2 b).mp hb, rfl⟩)
        have key : ∀ (ys : List (V × PyData)) (out : List β), (∀ p ∈ ys, p ∈ L.map fun p => (p.1, toPy (enc p.2))) → (∀ b ∈ out, b ∈ L.map (·.2)) → ys.map (·.2) = out.map (fun b => toPy (enc b)) → DRs K G1 (ys.map (·.1)) (out.map enc) := by
          intro ys
          induction ys with
          | nil => intro out _ _ e; cases out with | nil => exact .nil | cons b r => cases e
          | cons p r ih =>
            intro out hy ho e
            cases out with
            | nil => cases e
            | cons b rb =>
              rw [List.map_cons, List.map_cons, List.cons.injEq] at e
              obtain ⟨m, hm, em⟩ := List.mem_map.mp (hy p (.head _))
              have eb : m.2 = b := hE.inj _ (List.mem_map.mpr ⟨m, hm, rfl⟩) _ (ho b (.head _)) (by rw [← e.1, ← em])
              have ep : m.1 = p.1 := by rw [← em]
              refine .cons ?_ (ih rb (fun x hx => hy x (.tail _ hx)) (fun x hx => ho x (.tail _ hx)) e.2)
              show DR K G1 p.1 (enc b)
              rw [← ep, ← eb]
              exact l3 m hm
        rw [ez] at y1
        have rr := key ys out y1 (fun b hb => (h2 b).mp hb) ey
        have gn := Grow.newM (o := .lst (ys.map (·.1))) g1.s hl'
        exact q l' _ G1 _ (g1.trans gn) (Evl.fresh_back g1.h hl') (Evl.fresh_back g1.s hl') upd_same rr
theorem sn_sorted {enc : β → Dat} {bs : List β} {u : TA} (h : SemA K u ρ [.lst (bs.map enc)]) (hp : ∀ b ∈ bs, plainD (enc b) = true) (ha : ∀ a ∈ bs, ∀ b ∈ bs, PySem.W.alike (toPy (enc a)) (toPy (enc b)) = true) (hs : Sortable (bs.map fun b => toPy (enc b)))
    (hd : ∀ b ∈ bs, (toPy (enc b)).depth ≤ 50) : SemN K (tCB (uSorted K) u) ρ ((bs.mergeSort (dataLe false fun b => toPy (enc b))).map enc) := fun G0 B0 σ G H S Q q =>
  h _ _ _ _ _ S _ fun vs G1 H1 g1 rvs => by
    cases rvs with
    | cons rx rn =>
    cases rn
    cases rx with
    | @lst a xs _ a1 r1 =>
      obtain ⟨L, l1, l2, l3⟩ := drs_zip r1
      subst l1; subst l2
      have e : toPys ((L.map (·.2)).map enc) = (L.map (·.2)).map fun b => toPy (enc b) := by rw [toPys_map, List.map_map]; rfl
      refine ⟨a, _, (L.map (·.2)).map fun b => toPy (enc b), rfl, .inl (.inl (g1.s _ _ a1)), by rw [← e]; exact (r1.mono g1.s).dp (plainDs_map hp), fun d hd d' hd' => ?_, hs, fun d hd' => ?_, fun l' hl' => ?_⟩
      · obtain ⟨b, hb, rfl⟩ := List.mem_map.mp hd
        obtain ⟨b', hb', rfl⟩ := List.mem_map.mp hd'
        exact ha b hb b' hb'
      · obtain ⟨b, hb, rfl⟩ := List.mem_map.mp hd'
        exact hd b hb
      · have ez := zip_map enc L
        have e1 : ((L.map (·.1)).zip ((L.map (·.2)).map fun b => toPy (enc b))).mergeSort (dataLe false (·.2)) = (L.mergeSort (dataLe false fun p : V × β => toPy (enc p.2))).map fun p => (p.1, toPy (enc p.2)) := by
          rw [ez]
          exact (List.map_mergeSort (r := dataLe false fun p : V × β => toPy (enc p.2)) (s := dataLe false fun p : V × PyData => p.2) (f := fun p : V × β => (p.1, toPy (enc p.2))) (l := L) fun a _ b _ => rfl).symm
        have e2 : (L.map (·.2)).mergeSort (dataLe false fun b => toPy (enc b)) = (L.mergeSort (dataLe false fun p : V × β => toPy (enc p.2))).map (·.2) := (List.map_mergeSort (r := dataLe false fun p : V × β => toPy (enc p.2)) (s := dataLe false fun b : β => toPy (enc b)) (f := fun p : V × β => p.2) (l := L) fun a _ b _ => rfl).symm
        rw [e1, List.map_map]
        have rr : DRs K G1 ((L.mergeSort (dataLe false fun p : V × β => toPy (enc p.2))).map (·.1)) (((L.map (·.2)).mergeSort (dataLe false fun b => toPy (enc b))).map enc) := by
          rw [e2]
          exact drs_of fun p hp => l3 p ((List.mergeSort_perm _ _).mem_iff.mp hp)
        have gn := Grow.newM (o := .lst ((L.mergeSort (dataLe false fun p : V × β => toPy (enc p.2))).map (·.1))) g1.s hl'
        exact q l' _ G1 _ (g1.trans gn) (Evl.fresh_back g1.h hl') (Evl.fresh_back g1.s hl') upd_same rr
theorem cs_sum {ns : List Int} : CallS K (rSum K) [.lst (ns.map .int)] (.int ns.sum) := fun xs G H e r Q q => by
  cases r with
  | cons h r =>
    cases r
    cases h with
    | lst h1 r1 =>
      have := r1.ints
      subst this
      exact ⟨_, ns, rfl, .inl (.inl (e _ _ h1)), q _ _ _ (Grow.refl e) (.int _)⟩
end
theorem cu_sum {X : Cx} {K : PySem.W.Frag} (hK : X.K = K) (hc : X.calm = true) : CallR X (.builtin "sum") (rSum K) := by subst hK; exact cr_sum hc
/-! texts and pairs in order -/
theorem lt_txt (a b : List Nat) : dataLt (toPy (.txt a)) (toPy (.txt b)) = decide (a < b) := by
  show dataLt (.str _) (.str _) = _
  rw [PySem.W.dataLt_str, strL_cps, strL_cps]
end DL

set_option Elab.async false
set_option linter.all false
set_option maxRecDepth 100000
set_option maxHeartbeats 1000000
/-! DLk: comprehensions whose target is any -/
namespace DL
open PySem PySem.Spec PyProof.Rows L2
open Evl (Ex fresh_back)
/-- a target sets no other slots than vs -/
def SemGv (K : PySem.W.Frag) (g : TG) (vs : List Nat) (d : Dat) (ρ ρ' : List Sl) : Prop :=
  ∀ G0 B0 σ G H v, Sat K G0 B0 ρ σ G H → DR K G v d → ∀ Q : L2.St → Hp → Prop, (∀ σ', Sat K G0 B0 ρ' σ' G H → wipe σ' vs = wipe σ vs → Q σ' H) → g v σ H Q
def SemGvs (K : PySem.W.Frag) (g : TGs) (vs : List Nat) (ds : List Dat) (ρ ρ' : List Sl) : Prop :=
  ∀ G0 B0 σ G H ws, Sat K G0 B0 ρ σ G H → DRs K G ws ds → ∀ Q : L2.St → Hp → Prop, (∀ σ', Sat K G0 B0 ρ' σ' G H → wipe σ' vs = wipe σ vs → Q σ' H) → g ws σ H Q
def wipeS (ρ : List Sl) : List Nat → List Sl
  | [] => ρ
  | v :: vs => (wipeS ρ vs).set v .no
theorem wipe_in {σ : L2.St} {j : Nat} {o : Option V} : ∀ {vs : List Nat}, j ∈ vs → wipe (σ.set j o) vs = wipe σ vs
  | v :: vs, h => by
    show (wipe (σ.set j o) vs).set v none = (wipe σ vs).set v none
    by_cases hj : j ∈ vs
    · rw [wipe_in hj]
    · have e : v = j := by
        rcases List.mem_cons.mp h with z | z
        · exact z.symm
        · exact absurd z hj
      subst e
      have key : ∀ ws : List Nat, v ∉ ws → wipe (σ.set v o) ws = (wipe σ ws).set v o := by
        intro ws
        induction ws with
        | nil => intro _; rfl
        | cons u ws ih =>
          intro hn
          show (wipe (σ.set v o) ws).set u none = ((wipe σ ws).set u none).set v o
          rw [ih fun z => hn (.tail _ z), List.set_comm _ _ (fun z => hn (by rw [z]; exact .head _))]
      rw [key vs hj, List.set_set]
theorem wipe_set2 {σ τ : L2.St} {v : Nat} : ∀ {vs : List Nat}, wipe σ vs = wipe τ vs → wipe σ (v :: vs) = wipe τ (v :: vs) := fun h => by
  show (wipe σ _).set v none = (wipe τ _).set v none
  rw [h]
theorem wipe_wipe (σ : L2.St) : ∀ vs : List Nat, wipe (wipe σ vs) vs = wipe σ vs := by
  have key : ∀ (vs ws : List Nat), (∀ v ∈ ws, v ∈ vs) → wipe (wipe σ ws) vs = wipe σ vs := by
    intro vs ws
    induction ws with
    | nil => intro _; rfl
    | cons u ws ih =>
      intro h
      show wipe ((wipe σ ws).set u none) vs = _
      rw [wipe_in (h u (.head _)), ih fun v hv => h v (.tail _ hv)]
  exact fun vs => key vs vs fun _ h => h
section
variable {K : PySem.W.Frag} {ρ : List Sl} {t ta tb tc te : TE} {a b c d : Dat} {W : WX} {P : Post}
theorem Sat.wipe {G0 B0 G H : Hp} {σ : L2.St} (S : Sat K G0 B0 ρ σ G H) : ∀ vs : List Nat, Sat K G0 B0 (wipeS ρ vs) (L2.wipe σ vs) G H
  | [] => S
  | v :: vs => (S.wipe vs).forget
theorem sgv_name {i : Nat} {vs : List Nat} (h : i ∈ vs) : SemGv K (gName i) vs d ρ (ρ.set i (.dat d)) := fun G0 B0 σ G H v S r Q q => q _ (S.set r) (wipe_in h)
theorem sgvs_nil {vs : List Nat} : SemGvs K gNil vs [] ρ ρ := fun G0 B0 σ G H v S r Q q => by cases r; exact ⟨rfl, q _ S rfl⟩
theorem sgvs_cons {g : TG} {gs : TGs} {ds : List Dat} {vs : List Nat} {ρ1 ρ2 : List Sl} (h1 : SemGv K g vs d ρ ρ1) (h2 : SemGvs K gs vs ds ρ1 ρ2) : SemGvs K (gCons g gs) vs (d :: ds) ρ ρ2 := fun G0 B0 σ G H v S r Q q => by
  cases r with
  | cons ra rb => exact ⟨_, _, rfl, h1 _ _ _ _ _ _ S ra _ fun σ1 S1 e1 => h2 _ _ _ _ _ _ S1 rb _ fun σ2 S2 e2 => q _ S2 (e2.trans e1)⟩
theorem sgv_tup {gs : TGs} {ds : List Dat} {n : Nat} {vs : List Nat} {ρ2 : List Sl} (h : SemGvs K gs vs ds ρ ρ2) (hn : ds.length = n) : SemGv K (gTup K n gs) vs (.tup ds) ρ ρ2 := fun G0 B0 σ G H v S r Q q => by
  cases r with
  | tup h1 r1 => exact ⟨_, _, rfl, Evl.ex_t S.gr.s h1, by rw [r1.length]; exact hn, h _ _ _ _ _ _ S r1 _ q⟩
theorem sn_lcG {α : Type} {wi : TI} {g : TG} {tt : TT} {vs : List Nat} {enc : α → Dat} {xs : List α} {f : α → Bool} {gd : α → Dat} (hi : SemI K wi ρ (xs.map enc)) (hz : xs.length ≤ sizeLine)
    (hx : ∀ x, x ∈ xs → ∃ ρ2, SemGv K g vs (enc x) (wipeS ρ vs) ρ2 ∧ SemT K tt ρ2 (f x) ∧ (f x = true → Sem K te ρ2 (gd x))) : SemN K (tLc wi g tt te vs) ρ ((xs.filter f).map gd) := fun G0 B0 σ G H S Q q =>
  hi _ _ _ _ _ S _ fun J G1 H1 g1 Wk D hD => by
    have S1 := S.grow g1
    refine ⟨fun i m H' => m = xs.length - i ∧ i ≤ xs.length ∧ ∃ G' acc, Grow G1 H1 G' H' ∧ G' D = none ∧ H' D = some (.lst acc) ∧ DRs K G' acc (((xs.take i).filter f).map gd), ⟨xs.length, by omega, Nat.zero_le _, G1, [], Grow.newM g1.s hD, fresh_back g1.s hD, upd_same, .nil⟩, ?_⟩
    rintro i m H' ⟨rfl, hi', G', acc, g2, n2, h2, r2⟩
    have hl : (xs.map enc).length = xs.length := List.length_map _
    have hacc : acc.length ≤ i := by
      rw [r2.length, List.length_map]
      refine Nat.le_trans (List.length_filter_le _ _) ?_
      rw [List.length_take]; omega
    by_cases hlt : i < xs.length
    · have hxi : xs[i]? = some xs[i] := List.getElem?_eq_getElem hlt
      have hd : (xs.map enc)[i]? = some (enc xs[i]) := by rw [List.getElem?_map, hxi]; rfl
      obtain ⟨ρ2, hg, ht, he⟩ := hx _ (List.getElem_mem hlt)
      refine .inr ⟨Wk.go i G' H' g2.g g2.s (by rw [hl]; exact hlt), fun H'' => i + 1 ≤ xs.length ∧ ∃ G' acc, Grow G1 H1 G' H'' ∧ G' D = none ∧ H'' D = some (.lst acc) ∧ DRs K G' acc (((xs.take (i + 1)).filter f).map gd), fun H'' p => ⟨xs.length - (i + 1), by omega, rfl, p⟩, fun x H'' hy => ?_⟩
      obtain ⟨G3, g3, rx⟩ := Wk.yld i G' H' x H'' _ g2.g g2.s hd hy
      have S3 := (((S1.grow g2).grow g3).wipe vs)
      refine hg _ _ _ _ _ _ S3 rx _ fun σ2 S4 ew => ⟨by rw [ew, wipe_wipe], ht _ _ _ _ _ S4 _ fun G4 H4 g4 => ?_⟩
      have n4 : G4 D = none := (g3.trans g4).m D n2 (by rw [h2]; simp)
      have h4 : H4 D = some (.lst acc) := (g3.trans g4).h _ _ h2
      have et : xs.take (i + 1) = xs.take i ++ [xs[i]] := by rw [List.take_add_one, hxi]; rfl
      cases hf : f xs[i] with
      | false =>
        rw [if_neg (by simp)]
        refine ⟨hlt, G4, acc, (g2.trans g3).trans g4, n4, h4, ?_⟩
        rw [et, List.filter_append, List.filter_cons, hf]
        simp only [Bool.false_eq_true, if_false, List.filter_nil, List.append_nil]
        exact r2.mono (g3.trans g4).g
      | true =>
        rw [if_pos rfl]
        refine he hf _ _ _ _ _ (S4.grow g4) _ fun y G5 H5 g5 ry => ?_
        have n5 : G5 D = none := g5.m D n4 (by rw [h4]; simp)
        have h5 : H5 D = some (.lst acc) := g5.h _ _ h4
        have gg := ((g2.trans g3).trans g4).trans g5
        refine ⟨acc, h5, by omega, hlt, G5, acc ++ [y], ⟨gg.g, gg.s.mut n5, gg.h.mut hD, gg.m⟩, n5, upd_same, ?_⟩
        rw [et, List.filter_append, List.filter_cons, hf]
        simp only [if_true, List.filter_nil, List.map_append, List.map_cons, List.map_nil]
        exact (r2.mono ((g3.trans g4).trans g5).g).append (.cons ry .nil)
    · have ei : i = xs.length := by omega
      subst ei
      rw [List.take_length] at r2
      exact .inl ⟨Wk.stop _ G' H' g2.g g2.s (by rw [hl]; exact Nat.le_refl _), q D acc G' H' (g1.trans g2) (fresh_back g1.h hD) n2 h2 r2⟩
theorem sn_lcGA {α : Type} {wi : TI} {g : TG} {vs : List Nat} {enc : α → Dat} {xs : List α} {gd : α → Dat} (hi : SemI K wi ρ (xs.map enc)) (hz : xs.length ≤ sizeLine)
    (hx : ∀ x, x ∈ xs → ∃ ρ2, SemGv K g vs (enc x) (wipeS ρ vs) ρ2 ∧ Sem K te ρ2 (gd x)) : SemN K (tLc wi g tYes te vs) ρ (xs.map gd) := by
  have h := sn_lcG (K := K) (ρ := ρ) (te := te) (tt := tYes) (g := g) (vs := vs) (enc := enc) (xs := xs) (f := fun _ => true) (gd := gd) hi hz fun x hx' => by
    obtain ⟨ρ2, h1, h2⟩ := hx x hx'
    exact ⟨ρ2, h1, st_yes, fun _ => h2⟩
  rw [List.filter_eq_self.mpr (fun _ _ => rfl)] at h
  exact h
/-- a row of data, a list or a tuple -/
def sq (b : Bool) (ds : List Dat) : Dat := if b then .tup ds else .lst ds
theorem sq_seq {b : Bool} {ds : List Dat} : seqD (sq b ds) = some ds := by cases b <;> rfl
theorem sq_items {b : Bool} {ds : List Dat} : itemsD (sq b ds) = some ds := by cases b <;> rfl
theorem cs_lenQ {b : Bool} {ds : List Dat} : CallS K (uLen K) [sq b ds] (.int ds.length) := by
  cases b
  · exact cs_lenL
  · exact cs_lenU
end
end DL
namespace DL
open PySem PySem.Spec PyProof.Rows L2
/-- lists of unlike lengths -/
def rEqLen (K : PySem.W.Frag) : R2 := fun x y H Q => ∃ a b xs ys, x = .ref a ∧ y = .ref b ∧ SqL K H a xs ∧ SqL K H b ys ∧ xs.length ≠ ys.length ∧ Q (.bl false) H
def rNeLen (K : PySem.W.Frag) : R2 := fun x y H Q => ∃ a b xs ys, x = .ref a ∧ y = .ref b ∧ SqL K H a xs ∧ SqL K H b ys ∧ xs.length ≠ ys.length ∧ Q (.bl true) H
def uEqL (K : PySem.W.Frag) : R2 := fun x y H Q => uEq K x y H Q ∨ rEqLen K x y H Q
def uNeL (K : PySem.W.Frag) : R2 := fun x y H Q => uNe K x y H Q ∨ rNeLen K x y H Q
section
variable {X : Cx} {K : PySem.W.Frag}
theorem ou_eqL (hK : X.K = K) (hu : X.A.units + 64 < cLine) : OpR X (compareOp .Eq) (uEqL K) := by
  refine OpR.or (ou_eq hK hu) ?_
  subst hK
  intro pins s σ H x y v u Q I rx ry h
  obtain ⟨a, b, xs, ys, rfl, rfl, ha, hb, hn, q⟩ := h
  obtain ⟨its, r1, l1, _⟩ := I.list ha
  obtain ⟨jts, r2, l2, _⟩ := I.list hb
  cases rx; cases ry
  exact SeqAt.RcAt.lists_lengths l1.isList l2.isList (by simp only [List.size_toArray]; rw [← r1.length, ← r2.length]; simpa using hn) (by omega) _ _ _ _ ⟨.bl _, H, I, rfl, q⟩
theorem ou_neL (hK : X.K = K) (hu : X.A.units + 64 < cLine) : OpR X (compareOp .NotEq) (uNeL K) := by
  refine OpR.or (ou_ne hK hu) ?_
  subst hK
  intro pins s σ H x y v u Q I rx ry h
  obtain ⟨a, b, xs, ys, rfl, rfl, ha, hb, hn, q⟩ := h
  obtain ⟨its, r1, l1, _⟩ := I.list ha
  obtain ⟨jts, r2, l2, _⟩ := I.list hb
  cases rx; cases ry
  exact SeqAt.RcNeAt.lists_lengths l1.isList l2.isList (by simp only [List.size_toArray]; rw [← r1.length, ← r2.length]; simpa using hn) (by omega) _ _ _ _ ⟨.bl _, H, I, rfl, q⟩
theorem os_eqNil {ds : List Dat} : OpS K (uEqL K) (.lst ds) (.lst []) (.bl ds.isEmpty) := fun x y G H e rx ry Q q => by
  cases ds with
  | nil => exact .inl (os_eqD (a := .lst []) (b := .lst []) rfl rfl (by decide) (by decide) x y G H e rx ry Q q)
  | cons d r =>
    cases rx with
    | lst h1 r1 =>
      cases ry with
      | lst h2 r2 => exact .inr ⟨_, _, _, _, rfl, rfl, .inl (.inl (e _ _ h1)), .inl (.inl (e _ _ h2)), by rw [r1.length, r2.length]; simp, q _ _ _ (Grow.refl e) (.bl _)⟩
theorem os_neNil {ds : List Dat} : OpS K (uNeL K) (.lst ds) (.lst []) (.bl (!ds.isEmpty)) := fun x y G H e rx ry Q q => by
  cases ds with
  | nil => exact .inl (os_neD (a := .lst []) (b := .lst []) rfl rfl (by decide) (by decide) x y G H e rx ry Q q)
  | cons d r =>
    cases rx with
    | lst h1 r1 =>
      cases ry with
      | lst h2 r2 => exact .inr ⟨_, _, _, _, rfl, rfl, .inl (.inl (e _ _ h1)), .inl (.inl (e _ _ h2)), by rw [r1.length, r2.length]; simp, q _ _ _ (Grow.refl e) (.bl _)⟩
theorem os_neNilS {ns : List Int} : OpS K (uNeL K) (.scr ns) (.lst []) (.bl (!ns.isEmpty)) := fun x y G H e rx ry Q q => .inl (os_neScr x y G H e rx ry Q q)
/-- x in a list, by data -/
theorem os_inE {β : Type} [DecidableEq β] {enc : β → Dat} {b : β} {bs : List β} (p1 : plainD (enc b) = true) (p2 : ∀ x ∈ bs, plainD (enc x) = true) (s1 : SeqAt.shaped (toPy (enc b)) = true) (s2 : SeqAt.shaped (.list (bs.map fun x => toPy (enc x))) = true)
    (hq : ∀ x ∈ bs, PyData.eqv (toPy (enc x)) (toPy (enc b)) = decide (x = b)) : OpS K (uIn K) (enc b) (.lst (bs.map enc)) (.bl (decide (b ∈ bs))) := fun x y G H e rx ry Q q => by
  have e0 : toPys (bs.map enc) = bs.map fun x => toPy (enc x) := by rw [toPys_map, List.map_map]; rfl
  refine .inr (.inr ⟨_, bs.map fun x => toPy (enc x), (rx.mono e).dp p1, ?_, s1, s2, ?_⟩)
  · have z := (ry.mono e).dp (d := .lst (bs.map enc)) (plainDs_map p2)
    have z2 : toPy (.lst (bs.map enc)) = .list (bs.map fun x => toPy (enc x)) := by rw [← e0]; rfl
    rwa [z2] at z
  · have z : ((bs.map fun x => toPy (enc x)).any fun z => PyData.eqv z (toPy (enc b))) = decide (b ∈ bs) := by
      rw [List.any_map]
      rw [Bool.eq_iff_iff, List.any_eq_true, decide_eq_true_eq]
      constructor
      · rintro ⟨x, hx, hq'⟩
        have hq' : PyData.eqv (toPy (enc x)) (toPy (enc b)) = true := hq'
        rw [hq x hx, decide_eq_true_eq] at hq'
        exact hq' ▸ hx
      · intro hb
        exact ⟨b, hb, by show PyData.eqv (toPy (enc b)) (toPy (enc b)) = true; rw [hq b hb, decide_eq_true_eq]⟩
    rw [z]
    exact q _ _ _ (Grow.refl e) (.bl _)
theorem os_notinE {β : Type} [DecidableEq β] {enc : β → Dat} {b : β} {bs : List β} (p1 : plainD (enc b) = true) (p2 : ∀ x ∈ bs, plainD (enc x) = true) (s1 : SeqAt.shaped (toPy (enc b)) = true) (s2 : SeqAt.shaped (.list (bs.map fun x => toPy (enc x))) = true)
    (hq : ∀ x ∈ bs, PyData.eqv (toPy (enc x)) (toPy (enc b)) = decide (x = b)) : OpS K (uNotIn K) (enc b) (.lst (bs.map enc)) (.bl (!decide (b ∈ bs))) := fun x y G H e rx ry Q q => by
  have e0 : toPys (bs.map enc) = bs.map fun x => toPy (enc x) := by rw [toPys_map, List.map_map]; rfl
  refine .inr (.inr ⟨_, bs.map fun x => toPy (enc x), (rx.mono e).dp p1, ?_, s1, s2, ?_⟩)
  · have z := (ry.mono e).dp (d := .lst (bs.map enc)) (plainDs_map p2)
    have z2 : toPy (.lst (bs.map enc)) = .list (bs.map fun x => toPy (enc x)) := by rw [← e0]; rfl
    rwa [z2] at z
  · have z : ((bs.map fun x => toPy (enc x)).any fun z => PyData.eqv z (toPy (enc b))) = decide (b ∈ bs) := by
      rw [List.any_map]
      rw [Bool.eq_iff_iff, List.any_eq_true, decide_eq_true_eq]
      constructor
      · rintro ⟨x, hx, hq'⟩
        have hq' : PyData.eqv (toPy (enc x)) (toPy (enc b)) = true := hq'
        rw [hq x hx, decide_eq_true_eq] at hq'
        exact hq' ▸ hx
      · intro hb
        exact ⟨b, hb, by show PyData.eqv (toPy (enc b)) (toPy (enc b)) = true; rw [hq b hb, decide_eq_true_eq]⟩
    rw [z]
    exact q _ _ _ (Grow.refl e) (.bl _)
end
/-! rows of texts and ints as data -/
def leafD : Dat → Bool
  | .txt _ => true
  | .int _ => true
  | .bl _ => true
  | .non => true
  | _ => false
end DL

set_option Elab.async false
set_option linter.all false
set_option maxRecDepth 100000
set_option maxHeartbeats 1000000
/-! DLl: data that can be compared: == is = -/
namespace DL
open PySem PySem.Spec PyProof.Rows L2
def Okc (t : List Nat) : Prop := ∀ c ∈ t, c < 1114112
/-- None, ints, texts, and lists and tuples of them, at most n deep -/
def goodD : Nat → Dat → Prop
  | _, .non => True
  | _, .int _ => True
  | _, .txt t => Okc t
  | n + 1, .lst ds => ∀ d ∈ ds, goodD n d
  | n + 1, .tup ds => ∀ d ∈ ds, goodD n d
  | _, _ => False
theorem okc_str {t : List Nat} (h : Okc t) : PyData.strOk (strL t) = true := by
  unfold PyData.strOk strL
  rw [← Array.all_toList, List.all_eq_true]
  exact fun c hc => decide_eq_true (h c hc)
theorem good_facts : ∀ (n : Nat) (d : Dat), goodD n d → plainD d = true ∧ PyData.canLay0 (toPy d) = true ∧ PyData.depth (toPy d) ≤ n := by
  intro n
  induction n with
  | zero =>
    intro d h
    cases d with
    | non => exact ⟨rfl, rfl, Nat.le_refl _⟩
    | int i => exact ⟨rfl, rfl, Nat.le_refl _⟩
    | txt t => exact ⟨rfl, okc_str h, Nat.le_refl _⟩
    | _ => exact h.elim
  | succ n ih =>
    have all : ∀ ds : List Dat, (∀ d ∈ ds, goodD n d) → plainDs ds = true ∧ PyData.canLayAll0 (toPys ds) = true ∧ PyData.depthAll (toPys ds) ≤ n := by
      intro ds
      induction ds with
      | nil => intro _; exact ⟨rfl, rfl, Nat.zero_le _⟩
      | cons d r ih2 =>
        intro h
        obtain ⟨a1, a2, a3⟩ := ih d (h d (.head _))
        obtain ⟨b1, b2, b3⟩ := ih2 fun x hx => h x (.tail _ hx)
        refine ⟨?_, ?_, ?_⟩
        · show (plainD d && plainDs r) = true
          rw [a1, b1]; rfl
        · show (PyData.canLay0 (toPy d) && PyData.canLayAll0 (toPys r)) = true
          rw [a2, b2]; rfl
        · show max (PyData.depth (toPy d)) (PyData.depthAll (toPys r)) ≤ n
          omega
    intro d h
    cases d with
    | non => exact ⟨rfl, rfl, Nat.zero_le _⟩
    | int i => exact ⟨rfl, rfl, Nat.zero_le _⟩
    | txt t => exact ⟨rfl, okc_str h, Nat.zero_le _⟩
    | lst ds =>
      obtain ⟨a1, a2, a3⟩ := all ds h
      exact ⟨a1, a2, by show PyData.depthAll (toPys ds) + 1 ≤ n + 1; omega⟩
    | tup ds =>
      obtain ⟨a1, a2, a3⟩ := all ds h
      exact ⟨a1, a2, by show PyData.depthAll (toPys ds) + 1 ≤ n + 1; omega⟩
    | _ => exact h.elim
theorem good_mono : ∀ {n m : Nat} {d : Dat}, n ≤ m → goodD n d → goodD m d := by
  intro n
  induction n with
  | zero =>
    intro m d _ h
    cases d with
    | non => cases m <;> exact trivial
    | int i => cases m <;> exact trivial
    | txt t => cases m <;> exact h
    | _ => exact h.elim
  | succ n ih =>
    intro m d hm h
    cases m with
    | zero => omega
    | succ m =>
      cases d with
      | non => exact trivial
      | int i => exact trivial
      | txt t => exact h
      | lst ds => exact fun d hd => ih (by omega) (h d hd)
      | tup ds => exact fun d hd => ih (by omega) (h d hd)
      | _ => exact h.elim
theorem good_eqv : ∀ (n m : Nat) (a b : Dat), goodD n a → goodD m b → (PyData.eqv (toPy a) (toPy b) = true ↔ a = b) := by
  intro n
  induction n with
  | zero =>
    intro m a b ha hb
    cases a with
    | non => cases b <;> first | (cases m <;> exact False.elim hb) | exact ⟨fun _ => rfl, fun _ => rfl⟩ | exact ⟨fun z => (by cases z), fun z => (by cases z)⟩
    | int i =>
      cases b with
      | int j => exact ⟨fun z => by rw [show i = j by simpa [toPy, PyData.eqv] using z], fun z => by cases z; simp [toPy, PyData.eqv]⟩
      | non => exact ⟨fun z => (by cases z), fun z => (by cases z)⟩
      | txt t => exact ⟨fun z => (by cases z), fun z => (by cases z)⟩
      | lst ds => exact ⟨fun z => (by cases z), fun z => (by cases z)⟩
      | tup ds => exact ⟨fun z => (by cases z), fun z => (by cases z)⟩
      | _ => cases m <;> exact hb.elim
    | txt t =>
      cases b with
      | txt u => exact ⟨fun z => by rw [strL_inj (show strL t = strL u by simpa [toPy, PyData.eqv] using z)], fun z => by cases z; simp [toPy, PyData.eqv]⟩
      | non => exact ⟨fun z => (by cases z), fun z => (by cases z)⟩
      | int t => exact ⟨fun z => (by cases z), fun z => (by cases z)⟩
      | lst ds => exact ⟨fun z => (by cases z), fun z => (by cases z)⟩
      | tup ds => exact ⟨fun z => (by cases z), fun z => (by cases z)⟩
      | _ => cases m <;> exact hb.elim
    | _ => exact ha.elim
  | succ n ih =>
    have all : ∀ (m : Nat) (as bs : List Dat), (∀ d ∈ as, goodD n d) → (∀ d ∈ bs, goodD m d) → (PyData.eqvAll (toPys as) (toPys bs) = true ↔ as = bs) := by
      intro m as
      induction as with
      | nil => intro bs _ _; cases bs <;> first | exact ⟨fun _ => rfl, fun _ => rfl⟩ | exact ⟨fun z => (by cases z), fun z => (by cases z)⟩
      | cons a r ih2 =>
        intro bs ha hb
        cases bs with
        | nil => exact ⟨fun z => (by cases z), fun z => (by cases z)⟩
        | cons b s =>
          have h1 := ih m a b (ha a (.head _)) (hb b (.head _))
          have h2 := ih2 s (fun x hx => ha x (.tail _ hx)) (fun x hx => hb x (.tail _ hx))
          show (PyData.eqv (toPy a) (toPy b) && PyData.eqvAll (toPys r) (toPys s)) = true ↔ _
          rw [Bool.and_eq_true, h1, h2, List.cons.injEq]
    intro m a b ha hb
    cases a with
    | non => cases b <;> first | (cases m <;> exact False.elim hb) | exact ⟨fun _ => rfl, fun _ => rfl⟩ | exact ⟨fun z => (by cases z), fun z => (by cases z)⟩
    | int i =>
      cases b with
      | int j => exact ⟨fun z => by rw [show i = j by simpa [toPy, PyData.eqv] using z], fun z => by cases z; simp [toPy, PyData.eqv]⟩
      | non => exact ⟨fun z => (by cases z), fun z => (by cases z)⟩
      | txt t => exact ⟨fun z => (by cases z), fun z => (by cases z)⟩
      | lst ds => exact ⟨fun z => (by cases z), fun z => (by cases z)⟩
      | tup ds => exact ⟨fun z => (by cases z), fun z => (by cases z)⟩
      | _ => cases m <;> exact hb.elim
    | txt t =>
      cases b with
      | txt u => exact ⟨fun z => by rw [strL_inj (show strL t = strL u by simpa [toPy, PyData.eqv] using z)], fun z => by cases z; simp [toPy, PyData.eqv]⟩
      | non => exact ⟨fun z => (by cases z), fun z => (by cases z)⟩
      | int t => exact ⟨fun z => (by cases z), fun z => (by cases z)⟩
      | lst ds => exact ⟨fun z => (by cases z), fun z => (by cases z)⟩
      | tup ds => exact ⟨fun z => (by cases z), fun z => (by cases z)⟩
      | _ => cases m <;> exact hb.elim
    | lst as =>
      cases b with
      | lst bs =>
        cases m with
        | zero => exact hb.elim
        | succ m =>
          have h := all m as bs ha hb
          exact ⟨fun z => by rw [h.mp z], fun z => h.mpr (by cases z; rfl)⟩
      | non => exact ⟨fun z => (by cases z), fun z => (by cases z)⟩
      | int t => exact ⟨fun z => (by cases z), fun z => (by cases z)⟩
      | txt ds => exact ⟨fun z => (by cases z), fun z => (by cases z)⟩
      | tup ds => exact ⟨fun z => (by cases z), fun z => (by cases z)⟩
      | _ => cases m <;> exact hb.elim
    | tup as =>
      cases b with
      | tup bs =>
        cases m with
        | zero => exact hb.elim
        | succ m =>
          have h := all m as bs ha hb
          exact ⟨fun z => by rw [h.mp z], fun z => h.mpr (by cases z; rfl)⟩
      | non => exact ⟨fun z => (by cases z), fun z => (by cases z)⟩
      | int t => exact ⟨fun z => (by cases z), fun z => (by cases z)⟩
      | txt ds => exact ⟨fun z => (by cases z), fun z => (by cases z)⟩
      | lst ds => exact ⟨fun z => (by cases z), fun z => (by cases z)⟩
      | _ => cases m <;> exact hb.elim
    | _ => exact ha.elim
theorem good_shaped {n : Nat} {d : Dat} (h : goodD n d) (hn : n ≤ 60) : SeqAt.shaped (toPy d) = true := by
  obtain ⟨_, a2, a3⟩ := good_facts n d h
  unfold SeqAt.shaped
  rw [a2, decide_eq_true (by omega)]; rfl
section
variable {K : PySem.W.Frag} {a b : Dat} {n m : Nat} {k : Bool}
theorem os_eqK (ha : goodD n a) (hb : goodD m b) (hn : n ≤ 60) (hm : m ≤ 60) (hk : k = true ↔ a = b) : OpS K (uEq K) a b (.bl k) := by
  have z := os_eqD (K := K) (good_facts n a ha).1 (good_facts m b hb).1 (good_shaped ha hn) (good_shaped hb hm)
  have e : PyData.eqv (toPy a) (toPy b) = k := by rw [Bool.eq_iff_iff, good_eqv n m a b ha hb, hk]
  rwa [e] at z
theorem os_neK (ha : goodD n a) (hb : goodD m b) (hn : n ≤ 60) (hm : m ≤ 60) (hk : k = true ↔ a = b) : OpS K (uNe K) a b (.bl (!k)) := by
  have z := os_neD (K := K) (good_facts n a ha).1 (good_facts m b hb).1 (good_shaped ha hn) (good_shaped hb hm)
  have e : PyData.eqv (toPy a) (toPy b) = k := by rw [Bool.eq_iff_iff, good_eqv n m a b ha hb, hk]
  rwa [e] at z
theorem any_good {ds : List Dat} (ha : goodD n a) (hb : ∀ d ∈ ds, goodD m d) (hk : k = true ↔ a ∈ ds) : ((toPys ds).any fun z => PyData.eqv z (toPy a)) = k := by
  rw [toPys_map, List.any_map, Bool.eq_iff_iff, List.any_eq_true, hk]
  constructor
  · rintro ⟨x, hx, e⟩
    have e : PyData.eqv (toPy x) (toPy a) = true := e
    rw [good_eqv m n x a (hb x hx) ha] at e
    exact e ▸ hx
  · intro h
    exact ⟨a, h, (good_eqv m n a a (hb a h) ha).mpr rfl⟩
theorem os_inK {ds : List Dat} (ha : goodD n a) (hb : ∀ d ∈ ds, goodD m d) (hn : n ≤ 60) (hm : m ≤ 59) (hk : k = true ↔ a ∈ ds) : OpS K (uIn K) a (.lst ds) (.bl k) := fun x y G H e rx ry Q q => by
  have gl : goodD (m + 1) (.lst ds) := hb
  refine .inr (.inr ⟨_, toPys ds, (rx.mono e).dp (good_facts n a ha).1, (ry.mono e).dp (good_facts _ _ gl).1, good_shaped ha hn, good_shaped gl (by omega), ?_⟩)
  rw [any_good ha hb hk]
  exact q _ _ _ (Grow.refl e) (.bl _)
theorem os_notinK {ds : List Dat} (ha : goodD n a) (hb : ∀ d ∈ ds, goodD m d) (hn : n ≤ 60) (hm : m ≤ 59) (hk : k = true ↔ a ∈ ds) : OpS K (uNotIn K) a (.lst ds) (.bl (!k)) := fun x y G H e rx ry Q q => by
  have gl : goodD (m + 1) (.lst ds) := hb
  refine .inr (.inr ⟨_, toPys ds, (rx.mono e).dp (good_facts n a ha).1, (ry.mono e).dp (good_facts _ _ gl).1, good_shaped ha hn, good_shaped gl (by omega), ?_⟩)
  rw [any_good ha hb hk]
  exact q _ _ _ (Grow.refl e) (.bl _)
end
theorem good_map {α : Type} {n : Nat} {enc : α → Dat} {xs : List α} (h : ∀ x ∈ xs, goodD n (enc x)) : ∀ d ∈ xs.map enc, goodD n d := fun d hd => by
  obtain ⟨x, hx, rfl⟩ := List.mem_map.mp hd
  exact h x hx
theorem toPy_inj {n m : Nat} {a b : Dat} (ha : goodD n a) (hb : goodD m b) (h : toPy a = toPy b) : a = b := by
  rw [← good_eqv n m a b ha hb, h]
  exact (good_eqv m m b b hb hb).mpr rfl
end DL

set_option Elab.async false
set_option linter.all false
set_option maxRecDepth 100000
set_option maxHeartbeats 1000000
/-! DLm: what is told by properties alone: values of some kind, or exceptions; slots may change on the way -/
namespace DL
open PySem PySem.Spec PyProof.Rows L2
open Evl (Ex fresh_back)
abbrev SP := Dat → List Sl → Prop
abbrev XP := Addr → List (Str × Dat) → List Sl → Prop
abbrev noX : XP := fun _ _ _ => False
def SemE (K : PySem.W.Frag) (W : WX) (t : TE) (ρ : List Sl) (S : SP) (X : XP) : Prop :=
  ∀ G0 B0 σ G H, Sat K G0 B0 ρ σ G H → ∀ Q : VK, (∀ d v ρ' G' H', S d ρ' → Sat K G0 B0 ρ' σ G' H' → Ex G G' → DR K G' v d → Q v H') → (∀ C fs dd ρ' G' H', X C fs ρ' → Sat K G0 B0 ρ' σ G' H' → DX K G' dd fs → W (.ref C) dd σ H') → t σ H Q
def SemET (K : PySem.W.Frag) (W : WX) (t : TT) (ρ : List Sl) (S : Bool → List Sl → Prop) (X : XP) : Prop :=
  ∀ G0 B0 σ G H, Sat K G0 B0 ρ σ G H → ∀ Q : Bool → Hp → Prop, (∀ b ρ' G' H', S b ρ' → Sat K G0 B0 ρ' σ G' H' → Ex G G' → Q b H') → (∀ C fs dd ρ' G' H', X C fs ρ' → Sat K G0 B0 ρ' σ G' H' → DX K G' dd fs → W (.ref C) dd σ H') → t σ H Q
def SemEA (K : PySem.W.Frag) (W : WX) (t : TA) (ρ : List Sl) (S : List Dat → List Sl → Prop) (X : XP) : Prop :=
  ∀ G0 B0 σ G H, Sat K G0 B0 ρ σ G H → ∀ Q : List V → Hp → Prop, (∀ ds vs ρ' G' H', S ds ρ' → Sat K G0 B0 ρ' σ G' H' → Ex G G' → DRs K G' vs ds → Q vs H') → (∀ C fs dd ρ' G' H', X C fs ρ' → Sat K G0 B0 ρ' σ G' H' → DX K G' dd fs → W (.ref C) dd σ H') → t σ H Q
/-- a promise by properties -/
def spN (K : PySem.W.Frag) (D : List Dat → Prop) (R : List Dat → Out → Prop) : Sp := fun vs H Q E => ∃ G ds, Ex G H ∧ DRs K G vs ds ∧ D ds ∧
  (∀ d v G' H', R ds (.val d) → Grow G H G' H' → DR K G' v d → Q v H') ∧ (∀ C fs dd G' H', R ds (.exc C fs) → Grow G H G' H' → DX K G' dd fs → E (.ref C) dd H') ∧
  (∀ o v T G' H', R ds (.mt o) → Grow G H G' H' → OR K G' H' v o T → (∀ a ∈ T, H a = none ∧ G' a = none) → Q v H')
def PN (S : Out → Prop) : Post where
  nx := fun _ => S (.val .non)
  rt := fun d => S (.val d)
  rn := fun o => S (.mt o)
  ex := fun C fs _ => S (.exc C fs)
/-- of a def that raises nothing -/
def PY (S : Dat → Prop) : Post where
  nx := fun _ => S .non
  rt := S
abbrev valR (S : List Dat → Dat → Prop) (ds : List Dat) (o : Out) : Prop := ∃ d, o = .val d ∧ S ds d
section
variable {P : Program} {w : World} {K : PySem.W.Frag} {mg : Str → Option Value} {base : Heap}
theorem fn_nx {x qual : Str} {st : Stmt} {f : Addr} {fd : FuncData} {N ps : List Str} {k : Nat} {D : List Dat → Prop} {R : List Dat → Out → Prop} {T : WX → TS} (F : Fun K x qual st f fd) (S : FnScope N ps (defScope st))
    (hlen : ∀ ds, D ds → ds.length = ps.length)
    (hp : ∀ (cdv : Value) (A : Around) (outer : List Env) (s : Shared) (H : Hp) (E : XK), Room k (A.deeper (envOfC qual (defScope st) s.heap.objs.size f cdv)) → PSs (cxOf (L2.CX P w) P w K mg base N qual (defScope st) f cdv A outer s H E) (defBody st) (T fun cls d _ H => E cls d H))
    (hs : ∀ W ds, D ds → SemS K W (T W) (slots N.length ds) (PN (R ds))) : FnOk P w K mg base (L2.CX P w) (k + 1) f fd ps (spN K D R) := by
  refine F.okX S (fun vs H Q E h => ?_) (fun cdv A outer s H vs Q E hr h => ?_)
  · obtain ⟨G, ds, e, r, hD, _⟩ := h
    rw [r.length]; exact hlen ds hD
  · obtain ⟨G, ds, e, r, hD, q1, q2, q3⟩ := h
    exact ⟨_, hp cdv A outer s H E hr, hs _ ds hD G H _ G H _ (sat_start e r) (fun ρ' σ' G' H' h S' => q1 _ _ _ _ h S'.gr .non) ⟨fun d' v G' H' h g rv => q1 _ _ _ _ h g rv, fun o v T G' H' h g k1 k2 => q3 _ _ _ _ _ h g k1 k2, fun _ _ _ _ _ _ h _ _ => h.elim⟩ (fun _ _ _ _ h _ => h.elim) (fun _ _ _ _ h _ => h.elim) (fun C' fs' dd ρ' σ' G' H' h S' hx => q2 _ _ _ _ _ h S'.gr hx)⟩
theorem gxn_of {x qual : Str} {st : Stmt} {f : Addr} {fd : FuncData} {N ps : List Str} {k : Nat} {D : List Dat → Prop} {R : List Dat → Out → Prop} {T : WX → TS} (F : Fun K x qual st f fd) (hm : mg x = some (.ref f)) (hb : Binds K fd ps []) (S : FnScope N ps (defScope st))
    (hlen : ∀ ds, D ds → ds.length = ps.length)
    (hp : ∀ (cdv : Value) (A : Around) (outer : List Env) (s : Shared) (H : Hp) (E : XK), Room k (A.deeper (envOfC qual (defScope st) s.heap.objs.size f cdv)) → PSs (cxOf (L2.CX P w) P w K mg base N qual (defScope st) f cdv A outer s H E) (defBody st) (T fun cls d _ H => E cls d H))
    (hs : ∀ W ds, D ds → SemS K W (T W) (slots N.length ds) (PN (R ds))) : GX P w K mg base (k + 1) x ps (spN K D R) :=
  ⟨f, fd, fn_nx F S hlen hp hs, hm, F.kp, hb⟩
theorem fn_n {x qual : Str} {st : Stmt} {f : Addr} {fd : FuncData} {N ps : List Str} {k : Nat} {D : List Dat → Prop} {R : List Dat → Dat → Prop} {T : TS} (F : Fun K x qual st f fd) (S : FnScope N ps (defScope st))
    (hlen : ∀ ds, D ds → ds.length = ps.length)
    (hp : ∀ (cdv : Value) (A : Around) (outer : List Env) (s : Shared) (H : Hp) (E : XK), Room k (A.deeper (envOfC qual (defScope st) s.heap.objs.size f cdv)) → PSs (cxOf CX0 P w K mg base N qual (defScope st) f cdv A outer s H E).nox (defBody st) T)
    (hs : ∀ ds, D ds → SemS K (fun _ _ _ _ => False) T (slots N.length ds) (PY (R ds))) : FnOk P w K mg base CX0 (k + 1) f fd ps (spN K D (valR R)) := by
  refine F.ok S (fun vs H Q E h => ?_) (fun cdv A outer s H vs Q E hr h => ?_)
  · obtain ⟨G, ds, e, r, hD, _⟩ := h
    rw [r.length]; exact hlen ds hD
  · obtain ⟨G, ds, e, r, hD, q1, _, _⟩ := h
    exact ⟨T, hp cdv A outer s H E hr, hs ds hD G H _ G H _ (sat_start e r) (fun ρ' σ' G' H' h S' => q1 _ _ _ _ ⟨_, rfl, h⟩ S'.gr .non) ⟨fun d' v G' H' h g rv => q1 _ _ _ _ ⟨_, rfl, h⟩ g rv, fun _ _ _ _ _ h _ _ _ => h.elim, fun _ _ _ _ _ _ h _ _ => h.elim⟩ (fun _ _ _ _ h _ => h.elim) (fun _ _ _ _ h _ => h.elim) (fun _ _ _ _ _ _ _ h _ _ => h.elim)⟩
theorem gn_of {x qual : Str} {st : Stmt} {f : Addr} {fd : FuncData} {N ps : List Str} {k : Nat} {D : List Dat → Prop} {R : List Dat → Dat → Prop} {T : TS} (F : Fun K x qual st f fd) (hm : mg x = some (.ref f)) (hb : Binds K fd ps []) (S : FnScope N ps (defScope st))
    (hlen : ∀ ds, D ds → ds.length = ps.length)
    (hp : ∀ (cdv : Value) (A : Around) (outer : List Env) (s : Shared) (H : Hp) (E : XK), Room k (A.deeper (envOfC qual (defScope st) s.heap.objs.size f cdv)) → PSs (cxOf CX0 P w K mg base N qual (defScope st) f cdv A outer s H E).nox (defBody st) T)
    (hs : ∀ ds, D ds → SemS K (fun _ _ _ _ => False) T (slots N.length ds) (PY (R ds))) : GD P w K mg base (k + 1) x ps (spN K D (valR R)) :=
  ⟨f, fd, fn_n F S hlen hp hs, hm, F.kp, hb⟩
end
section
variable {K : PySem.W.Frag} {W : WX} {ρ : List Sl} {t ta tb tc te : TE} {tt : TT} {u : TA} {a b c d : Dat} {P : Post} {S S' : SP} {X X' : XP}
theorem se_of (h : Sem K t ρ d) (hs : S d ρ) : SemE K W t ρ S X := fun G0 B0 σ G H St Q q _ => h _ _ _ _ _ St _ fun v G1 H1 g1 rv => q d v ρ G1 H1 hs (St.grow g1) g1.g rv
theorem se_mono (h : SemE K W t ρ S' X') (h1 : ∀ d ρ', S' d ρ' → S d ρ') (h2 : ∀ C fs ρ', X' C fs ρ' → X C fs ρ') : SemE K W t ρ S X := fun G0 B0 σ G H St Q q x =>
  h _ _ _ _ _ St _ (fun d v ρ' G' H' hs => q d v ρ' G' H' (h1 _ _ hs)) fun C fs dd ρ' G' H' hx => x C fs dd ρ' G' H' (h2 _ _ _ hx)
theorem set_of {k : Bool} {S : Bool → List Sl → Prop} (h : SemT K tt ρ k) (hs : S k ρ) : SemET K W tt ρ S X := fun G0 B0 σ G H St Q q _ => h _ _ _ _ _ St _ fun G1 H1 g1 => q k ρ G1 H1 hs (St.grow g1) g1.g
theorem sea_nil {S : List Dat → List Sl → Prop} (hs : S [] ρ) : SemEA K W tNil ρ S X := fun G0 B0 σ G H St Q q _ => q [] [] ρ G H hs St (Evl.Ex.refl _) .nil
theorem sea_of {S : List Dat → List Sl → Prop} {ds : List Dat} (h : SemA K u ρ ds) (hs : S ds ρ) : SemEA K W u ρ S X := fun G0 B0 σ G H St Q q _ => h _ _ _ _ _ St _ fun vs G1 H1 g1 rv => q ds vs ρ G1 H1 hs (St.grow g1) g1.g rv
theorem sea_cons {S : List Dat → List Sl → Prop} (ha : SemE K W ta ρ S' X) (hr : ∀ d ρ1, S' d ρ1 → SemEA K W u ρ1 (fun ds ρ2 => S (d :: ds) ρ2) X) : SemEA K W (tCons ta u) ρ S X := fun G0 B0 σ G H St Q q x =>
  ha _ _ _ _ _ St _ (fun d v ρ1 G1 H1 hs St1 e1 rv => hr d ρ1 hs _ _ _ _ _ St1 _ (fun ds vs ρ2 G2 H2 hs2 St2 e2 rvs => q _ _ _ _ _ hs2 St2 (e1.trans e2) (.cons (rv.mono e2) rvs)) x) x
theorem se_op {r : R2} {Sb : SP} (ha : SemE K W ta ρ S' X) (hb : ∀ a ρ1, S' a ρ1 → SemE K W tb ρ1 (fun b ρ2 => ∃ c, OpS K r a b c ∧ S c ρ2) X) : SemE K W (tOp r ta tb) ρ S X := fun G0 B0 σ G H St Q q x =>
  ha _ _ _ _ _ St _ (fun a v ρ1 G1 H1 hs St1 e1 rv => hb a ρ1 hs _ _ _ _ _ St1 _ (fun b y ρ2 G2 H2 hs2 St2 e2 ry => by
    obtain ⟨c, ho, hc⟩ := hs2
    exact ho v y G2 H2 St2.gr.s (rv.mono e2) ry Q fun z G3 H3 g3 rz => q c z ρ2 G3 H3 hc (St2.grow g3) ((e1.trans e2).trans g3.g) rz) x) x
theorem set_test {S : Bool → List Sl → Prop} (h : SemE K W te ρ (fun d ρ' => ∃ b, d = .bl b ∧ S b ρ') X) : SemET K W (tTest te) ρ S X := fun G0 B0 σ G H St Q q x =>
  h _ _ _ _ _ St _ (fun d v ρ1 G1 H1 hs St1 e1 rv => by
    obtain ⟨b, rfl, hb⟩ := hs
    cases rv
    exact ⟨b, rfl, q b ρ1 G1 H1 hb St1 e1⟩) x
theorem set_tru {S : Bool → List Sl → Prop} (h : SemE K W te ρ (fun d ρ' => ∃ b, d = .bl b ∧ S b ρ') X) : SemET K W (tTru K te) ρ S X := fun G0 B0 σ G H St Q q x => by
  have key : ∀ (b : Bool) (ρ1 : List Sl) (G1 H1 : Hp), S b ρ1 → Sat K G0 B0 ρ1 σ G1 H1 → Ex G G1 → (tTru K (tC (.bl b))) σ H1 Q := fun b ρ1 G1 H1 hb St1 e1 => (st_bl (K := K) (ρ := ρ1) (s_bl (i := b))) _ _ _ _ _ St1 _ fun G2 H2 g2 => q b ρ1 G2 H2 hb (St1.grow g2) (e1.trans g2.g)
  exact h _ _ _ _ _ St _ (fun d v ρ1 G1 H1 hs St1 e1 rv => by
    obtain ⟨b, rfl, hb⟩ := hs
    cases rv
    exact key b ρ1 G1 H1 hb St1 e1) x
theorem set_not {S : Bool → List Sl → Prop} (h : SemET K W tt ρ (fun b ρ' => S (!b) ρ') X) : SemET K W (tNot tt) ρ S X := fun G0 B0 σ G H St Q q x =>
  h _ _ _ _ _ St _ (fun b ρ1 G1 H1 hs St1 e1 => q (!b) ρ1 G1 H1 hs St1 e1) x
theorem set_or {S : Bool → List Sl → Prop} {tu : TT} {S1 : Bool → List Sl → Prop} (h : SemET K W tt ρ S1 X) (h1 : ∀ ρ', S1 true ρ' → S true ρ') (h2 : ∀ ρ', S1 false ρ' → SemET K W tu ρ' S X) : SemET K W (tOr tt tu) ρ S X := fun G0 B0 σ G H St Q q x =>
  h _ _ _ _ _ St _ (fun b ρ1 G1 H1 hs St1 e1 => by
    cases b with
    | true => rw [if_pos rfl]; exact q true ρ1 G1 H1 (h1 _ hs) St1 e1
    | false => rw [if_neg (by simp)]; exact h2 _ hs _ _ _ _ _ St1 _ (fun b ρ2 G2 H2 hs2 St2 e2 => q b ρ2 G2 H2 hs2 St2 (e1.trans e2)) x) x
theorem set_and {S : Bool → List Sl → Prop} {tu : TT} {S1 : Bool → List Sl → Prop} (h : SemET K W tt ρ S1 X) (h1 : ∀ ρ', S1 false ρ' → S false ρ') (h2 : ∀ ρ', S1 true ρ' → SemET K W tu ρ' S X) : SemET K W (tAnd tt tu) ρ S X := fun G0 B0 σ G H St Q q x =>
  h _ _ _ _ _ St _ (fun b ρ1 G1 H1 hs St1 e1 => by
    cases b with
    | false => rw [if_neg (by simp)]; exact q false ρ1 G1 H1 (h1 _ hs) St1 e1
    | true => rw [if_pos rfl]; exact h2 _ hs _ _ _ _ _ St1 _ (fun b ρ2 G2 H2 hs2 St2 e2 => q b ρ2 G2 H2 hs2 St2 (e1.trans e2)) x) x
/-- a call of a built-in -/
theorem se_cb {r : List V → Hp → VK → Prop} (h : SemEA K W u ρ (fun ds ρ' => ∃ c, CallS K r ds c ∧ S c ρ') X) : SemE K W (tCB r u) ρ S X := fun G0 B0 σ G H St Q q x =>
  h _ _ _ _ _ St _ (fun ds vs ρ1 G1 H1 hs St1 e1 rv => by
    obtain ⟨c, hc, hs⟩ := hs
    exact hc vs G1 H1 St1.gr.s rv Q fun v G2 H2 g2 rv => q c v ρ1 G2 H2 hs (St1.grow g2) (e1.trans g2.g) rv) x
/-- calls of defs -/
theorem se_callN {D : List Dat → Prop} {R : List Dat → Out → Prop} {E : XK} (h : SemEA K W u ρ (fun ds ρ' => D ds ∧ ∀ o, R ds o → ∃ d, o = .val d ∧ S d ρ') X) : SemE K W (tCall (spN K D R) [] E u) ρ S X := fun G0 B0 σ G H St Q q x =>
  h _ _ _ _ _ St _ (fun ds vs ρ1 G1 H1 hs St1 e1 rv => by
    obtain ⟨hD, hR⟩ := hs
    refine ⟨G1, ds, St1.gr.s, by rw [List.append_nil]; exact rv, hD, fun d v G2 H2 h1 g2 r2 => ?_, fun C fs dd G2 H2 h1 g2 r2 => ?_, fun o v T G2 H2 h1 g2 r2 k2 => ?_⟩
    · obtain ⟨d', e, hs⟩ := hR _ h1
      cases e
      exact q _ _ _ _ _ hs (St1.grow g2) (e1.trans g2.g) r2
    · obtain ⟨d', e, hs⟩ := hR _ h1
      cases e
    · obtain ⟨d', e, hs⟩ := hR _ h1
      cases e) x
theorem se_callD {R : List Dat → Dat → Prop} {E : XK} (h : SemEA K W u ρ (fun ds ρ' => ∃ c, R ds c ∧ S c ρ') X) : SemE K W (tCall (spD K R) [] E u) ρ S X := fun G0 B0 σ G H St Q q x =>
  h _ _ _ _ _ St _ (fun ds vs ρ1 G1 H1 hs St1 e1 rv => by
    obtain ⟨c, hc, hs⟩ := hs
    exact ⟨G1, ds, c, St1.gr.s, by rw [List.append_nil]; exact rv, hc, fun v G2 H2 g2 rv => q c v ρ1 G2 H2 hs (St1.grow g2) (e1.trans g2.g) rv⟩) x
theorem se_callO0 {R : List Dat → Out → Prop} {E : XK} (h : SemEA K W u ρ (fun ds ρ' => ∃ c, R ds (.val c) ∧ S c ρ') X) : SemE K W (tCall (spO K R) [] E u) ρ S X := fun G0 B0 σ G H St Q q x =>
  h _ _ _ _ _ St _ (fun ds vs ρ1 G1 H1 hs St1 e1 rv => by
    obtain ⟨c, hc, hs⟩ := hs
    exact ⟨G1, ds, St1.gr.s, by rw [List.append_nil]; exact rv, .inl ⟨c, hc, fun v G2 H2 g2 rv => q c v ρ1 G2 H2 hs (St1.grow g2) (e1.trans g2.g) rv⟩⟩) x
/-- a call that may raise -/
theorem se_callX {D : List Dat → Prop} {R : List Dat → Out → Prop} (h : SemEA K W u ρ (fun ds ρ' => D ds ∧ (∀ d, R ds (.val d) → S d ρ') ∧ (∀ C fs, R ds (.exc C fs) → X C fs ρ') ∧ ∀ o, R ds (.mt o) → S (frz o) ρ') X) : SemE K W (tCallSD (spN K D R) [] (WE W) u) ρ S X := fun G0 B0 σ G H St Q q x =>
  h _ _ _ _ _ St _ (fun ds vs ρ1 G1 H1 hs St1 e1 rv => by
    obtain ⟨hD, h1, h2, h3⟩ := hs
    refine ⟨G1, ds, St1.gr.s, by rw [List.append_nil]; exact rv, hD, fun d v G2 H2 hr g2 r2 => q _ _ _ _ _ (h1 _ hr) (St1.grow g2) (e1.trans g2.g) r2, fun C fs dd G2 H2 hr g2 r2 => x _ _ _ _ _ _ (h2 _ _ hr) (St1.grow g2) r2, fun o v T G2 H2 hr g2 r2 k2 => ?_⟩
    have S2 := St1.grow g2
    have eg : Ex G2 (fun a => if a ∈ T then H2 a else G2 a) := fun a u hu => by
      by_cases z : a ∈ T
      · rw [(k2 a z).2] at hu; cases hu
      · show (if a ∈ T then H2 a else G2 a) = some u
        rw [if_neg z]; exact hu
    have es : Ex (fun a => if a ∈ T then H2 a else G2 a) H2 := fun a u hu => by
      have hu : (if a ∈ T then H2 a else G2 a) = some u := hu
      by_cases z : a ∈ T
      · rw [if_pos z] at hu; exact hu
      · rw [if_neg z] at hu; exact g2.s a u hu
    have g3 : Grow G1 H1 (fun a => if a ∈ T then H2 a else G2 a) H2 := ⟨g2.g.trans eg, es, g2.h, fun a z1 z2 => by
      show (if a ∈ T then H2 a else G2 a) = none
      rw [if_neg (fun z => z2 (k2 a z).1)]
      exact g2.m a z1 z2⟩
    exact q _ _ _ _ _ (h3 _ hr) (St1.grow g3) (e1.trans g3.g) (r2.frz eg fun a ha u hu => by
      show (if a ∈ T then H2 a else G2 a) = some u
      rw [if_pos ha]; exact hu)) x
/-! statements -/
theorem ss_asgE {g : TG} (h : SemE K W te ρ S X) (h1 : ∀ d ρ', S d ρ' → ∃ ρ2, SemG K g d ρ' ρ2 ∧ P.nx ρ2) (h2 : ∀ C fs ρ', X C fs ρ' → P.ex C fs ρ') : SemS K W (tAsg te g) ρ P := fun G0 B0 σ G H D St n r b ct x =>
  h _ _ _ _ _ St _ (fun d v ρ1 G1 H1 hs St1 e1 rv => by
    obtain ⟨ρ2, hg, hp⟩ := h1 _ _ hs
    exact hg _ _ _ _ _ _ St1 rv _ fun σ' S' => n _ _ _ _ hp S') fun C fs dd ρ' G' H' hx St' hd => x _ _ _ _ _ _ _ (h2 _ _ _ hx) St' hd
theorem ss_dropE (h : SemE K W te ρ S X) (h1 : ∀ d ρ', S d ρ' → P.nx ρ') (h2 : ∀ C fs ρ', X C fs ρ' → P.ex C fs ρ') : SemS K W (tDrop te) ρ P := fun G0 B0 σ G H D St n r b ct x =>
  h _ _ _ _ _ St _ (fun d v ρ1 G1 H1 hs St1 e1 rv => n _ _ _ _ (h1 _ _ hs) St1) fun C fs dd ρ' G' H' hx St' hd => x _ _ _ _ _ _ _ (h2 _ _ _ hx) St' hd
theorem ss_retE (h : SemE K W te ρ S X) (h1 : ∀ d ρ', S d ρ' → P.rt d ∨ P.rm d ρ') (h2 : ∀ C fs ρ', X C fs ρ' → P.ex C fs ρ') : SemS K W (tRet te) ρ P := fun G0 B0 σ G H D St n r b ct x =>
  h _ _ _ _ _ St _ (fun d v ρ1 G1 H1 hs St1 e1 rv => by
    rcases h1 _ _ hs with z | z
    · exact r.1 _ _ _ _ z St1.gr rv
    · exact r.2.2 _ _ _ _ _ _ z St1 rv) fun C fs dd ρ' G' H' hx St' hd => x _ _ _ _ _ _ _ (h2 _ _ _ hx) St' hd
theorem ss_ifE {u w : TS} {Sb : Bool → List Sl → Prop} (h : SemET K W tt ρ Sb X) (h1 : ∀ ρ', Sb true ρ' → SemS K W u ρ' P) (h2 : ∀ ρ', Sb false ρ' → SemS K W w ρ' P) (h3 : ∀ C fs ρ', X C fs ρ' → P.ex C fs ρ') : SemS K W (tIfS tt u w) ρ P := fun G0 B0 σ G H D St n r b ct x =>
  h _ _ _ _ _ St _ (fun k ρ1 G1 H1 hs St1 e1 => by
    have back : ∀ {ρ' σ' G' H'}, Sat K G0 B0 ρ' σ' G' H' → Sat K G0 B0 ρ' σ' G' H' := fun s => s
    cases k with
    | true => rw [if_pos rfl]; exact h1 _ hs _ _ _ _ _ _ St1 n r b ct x
    | false => rw [if_neg (by simp)]; exact h2 _ hs _ _ _ _ _ _ St1 n r b ct x) fun C fs dd ρ' G' H' hx St' hd => x _ _ _ _ _ _ _ (h3 _ _ _ hx) St' hd
end
end DL

set_option Elab.async false
set_option linter.all false
set_option maxRecDepth 100000
set_option maxHeartbeats 1000000
/-! DLn: comprehensions by properties -/
namespace DL
open PySem PySem.Spec PyProof.Rows L2
open Evl (Ex fresh_back)
section
variable {K : PySem.W.Frag} {G0 B0 G H : Hp} {ρ : List Sl} {σ : L2.St} {D : Addr} {o o' : HO}
theorem Sat.addBase (S : Sat K G0 B0 ρ σ G H) (hp : H D = none) (o : HO) : Sat K G0 (upd B0 D o) ρ σ G (upd H D o) := by
  obtain ⟨F, f1, f2⟩ := S.fp
  have gd : G D = none := fresh_back S.gr.s hp
  refine ⟨⟨S.gr.g, fun a u hu => ?_, fun a u hu => ?_, fun a h1 h2 => ?_⟩, S.len, S.dat, F, fun i q hq => ?_, f2⟩
  · rw [upd_ne (fun z => by rw [z, gd] at hu; cases hu)]; exact S.gr.s a u hu
  · by_cases z : a = D
    · subst z; rw [upd_same] at hu ⊢; exact hu
    · rw [upd_ne z] at hu ⊢; exact S.gr.h a u hu
  · by_cases z : a = D
    · subst z; exact gd
    · rw [upd_ne z] at h2; exact S.gr.m a h1 h2
  · obtain ⟨v, h1, h2, h3⟩ := f1 i q hq
    have ne : ∀ a ∈ F i, a ≠ D := fun a ha z => h2.there a ha (by rw [z]; exact hp)
    exact ⟨v, h1, h2.keep (Evl.Ex.refl _) fun a ha u hu => by rw [upd_ne (ne a ha)]; exact hu, fun a ha => ⟨(h3 a ha).1, by rw [upd_ne (ne a ha)]; exact (h3 a ha).2⟩⟩
theorem Sat.setBase (S : Sat K G0 (upd B0 D o) ρ σ G H) (hg : G0 D = none) (o' : HO) : Sat K G0 (upd B0 D o') ρ σ G (upd H D o') := by
  obtain ⟨F, f1, f2⟩ := S.fp
  have gd : G D = none := S.gr.m D hg (by rw [upd_same]; simp)
  refine ⟨⟨S.gr.g, fun a u hu => ?_, fun a u hu => ?_, fun a h1 h2 => ?_⟩, S.len, S.dat, F, fun i q hq => ?_, f2⟩
  · rw [upd_ne (fun z => by rw [z, gd] at hu; cases hu)]; exact S.gr.s a u hu
  · by_cases z : a = D
    · subst z; rw [upd_same] at hu ⊢; exact hu
    · rw [upd_ne z] at hu ⊢; exact S.gr.h a u (by rw [upd_ne z]; exact hu)
  · by_cases z : a = D
    · subst z; exact gd
    · rw [upd_ne z] at h2; exact S.gr.m a h1 (by rw [upd_ne z]; exact h2)
  · obtain ⟨v, h1, h2, h3⟩ := f1 i q hq
    have ne : ∀ a ∈ F i, a ≠ D := fun a ha z => by
      have := (h3 a ha).2
      rw [z, upd_same] at this
      cases this
    exact ⟨v, h1, h2.keep (Evl.Ex.refl _) fun a ha u hu => by rw [upd_ne (ne a ha)]; exact hu, fun a ha => ⟨(h3 a ha).1, by have := (h3 a ha).2; rw [upd_ne (ne a ha)] at this ⊢; exact this⟩⟩
theorem Sat.frzBase (S : Sat K G0 (upd B0 D o) ρ σ G H) (hg : G0 D = none) (hb : B0 D = none) : Sat K G0 B0 ρ σ (upd G D o) H ∧ Ex G (upd G D o) := by
  obtain ⟨F, f1, f2⟩ := S.fp
  have gd : G D = none := S.gr.m D hg (by rw [upd_same]; simp)
  have hd : H D = some o := S.gr.h D o upd_same
  have eg : Ex G (upd G D o) := Evl.Ex.new gd
  refine ⟨⟨⟨S.gr.g.trans eg, fun a u hu => ?_, fun a u hu => ?_, fun a h1 h2 => ?_⟩, S.len, fun i d h => ?_, F, fun i q hq => ?_, f2⟩, eg⟩
  · by_cases z : a = D
    · subst z; rw [upd_same] at hu; rw [hd]; exact hu
    · rw [upd_ne z] at hu; exact S.gr.s a u hu
  · exact S.gr.h a u (by rw [upd_ne (fun z => by rw [z, hb] at hu; cases hu)]; exact hu)
  · have z : a ≠ D := fun z => h2 (by rw [z]; exact hb)
    rw [upd_ne z]
    exact S.gr.m a h1 (by rw [upd_ne z]; exact h2)
  · obtain ⟨v, h1, h2⟩ := S.dat i d h
    exact ⟨v, h1, h2.mono eg⟩
  · obtain ⟨v, h1, h2, h3⟩ := f1 i q hq
    have ne : ∀ a ∈ F i, a ≠ D := fun a ha z => by
      have := (h3 a ha).2
      rw [z, upd_same] at this
      cases this
    exact ⟨v, h1, h2.keep eg fun a ha u hu => hu, fun a ha => ⟨by rw [upd_ne (ne a ha)]; exact (h3 a ha).1, by have := (h3 a ha).2; rw [upd_ne (ne a ha)] at this; exact this⟩⟩
/-- slots of which nothing is known may hold anything -/
theorem Sat.at_other {τ : L2.St} (S : Sat K G0 B0 ρ σ G H) (hl : τ.length = σ.length) (h : ∀ i : Nat, ρ[i]? ≠ some .no → i < ρ.length → τ[i]? = σ[i]?) : Sat K G0 B0 ρ τ G H := by
  obtain ⟨F, f1, f2⟩ := S.fp
  refine ⟨S.gr, by rw [hl]; exact S.len, fun i d hi => ?_, F, fun i q hi => ?_, f2⟩
  · obtain ⟨v, h1, h2⟩ := S.dat i d hi
    exact ⟨v, by rw [h i (by rw [hi]; simp) (List.getElem?_eq_some_iff.mp hi).1]; exact h1, h2⟩
  · obtain ⟨v, h1, h2⟩ := f1 i q hi
    exact ⟨v, by rw [h i (by rw [hi]; simp) (List.getElem?_eq_some_iff.mp hi).1]; exact h1, h2⟩
theorem wipeS_len (ρ : List Sl) : ∀ vs : List Nat, (wipeS ρ vs).length = ρ.length
  | [] => rfl
  | v :: vs => by show ((wipeS ρ vs).set v .no).length = _; rw [List.length_set, wipeS_len ρ vs]
theorem wipeS_no (ρ : List Sl) : ∀ (vs : List Nat) (i : Nat), i ∈ vs → i < ρ.length → (wipeS ρ vs)[i]? = some .no
  | v :: vs, i, h, hl => by
    show ((wipeS ρ vs).set v .no)[i]? = some .no
    by_cases e : v = i
    · subst e; rw [List.getElem?_set_self (by rw [wipeS_len]; exact hl)]
    · rw [List.getElem?_set_ne e]
      exact wipeS_no ρ vs i (by rcases List.mem_cons.mp h with z | z; · exact absurd z.symm e
                                · exact z) hl
theorem wipe_other (σ : L2.St) : ∀ (vs : List Nat) (i : Nat), i ∉ vs → (L2.wipe σ vs)[i]? = σ[i]?
  | [], _, _ => rfl
  | v :: vs, i, h => by
    show ((L2.wipe σ vs).set v none)[i]? = _
    rw [List.getElem?_set_ne (fun z => h (by rw [z]; exact .head _))]
    exact wipe_other σ vs i fun z => h (.tail _ z)
theorem Sat.unwipe {σ2 : L2.St} {vs : List Nat} (S : Sat K G0 B0 ρ σ2 G H) (hw : L2.wipe σ2 vs = L2.wipe σ vs) : Sat K G0 B0 (wipeS ρ vs) σ G H := by
  have S1 := S.wipe vs
  have el : σ.length = (L2.wipe σ2 vs).length := by rw [hw, wipe_length]
  refine S1.at_other el fun i h1 h2 => ?_
  have hi : i ∉ vs := fun z => h1 (wipeS_no ρ vs i z (by rw [wipeS_len] at h2; exact h2))
  rw [hw, wipe_other σ vs i hi]
end
section
variable {K : PySem.W.Frag} {W : WX} {ρ : List Sl} {te : TE} {tt : TT} {S : SP} {X : XP}
/-- [te for g in wi if tt] -/
theorem se_lc {α : Type} {wi : TI} {g : TG} {vs : List Nat} {enc : α → Dat} {xs : List α} (hi : SemI K wi ρ (xs.map enc)) (hz : xs.length ≤ sizeLine) (I : Nat → List Dat → List Sl → Prop) (h0 : I 0 [] (wipeS ρ vs))
    (hs : ∀ i x acc ρ1, xs[i]? = some x → acc.length ≤ i → I i acc ρ1 → ∃ ρ2, SemGv K g vs (enc x) (wipeS ρ1 vs) ρ2 ∧ SemET K W tt ρ2 (fun b ρ3 => (b = true → SemE K W te ρ3 (fun d ρ4 => I (i + 1) (acc ++ [d]) (wipeS ρ4 vs)) noX) ∧ (b = false → I (i + 1) acc (wipeS ρ3 vs))) noX)
    (hd : ∀ acc ρ1, I xs.length acc ρ1 → S (.lst acc) ρ1) : SemE K W (tLc wi g tt te vs) ρ S X := fun G0 B0 σ G H St Q q _ =>
  hi _ _ _ _ _ St _ fun J G1 H1 g1 Wk D hD => by
    have S1 := St.grow g1
    have hG0 : G0 D = none := fresh_back (S1.gr.g.trans S1.gr.s) hD
    have hB0 : B0 D = none := fresh_back S1.gr.h hD
    have hl : (xs.map enc).length = xs.length := List.length_map _
    have S2 : Sat K G0 (upd B0 D (.lst [])) (wipeS ρ vs) σ G1 (upd H1 D (.lst [])) := (S1.addBase hD (.lst [])).unwipe rfl
    refine ⟨fun i m H' => m = xs.length - i ∧ i ≤ xs.length ∧ ∃ G' ws acc ρ1, Ex G1 G' ∧ Sat K G0 (upd B0 D (.lst ws)) ρ1 σ G' H' ∧ DRs K G' ws acc ∧ acc.length ≤ i ∧ I i acc ρ1, ⟨xs.length, by omega, Nat.zero_le _, G1, [], [], _, Evl.Ex.refl _, S2, .nil, Nat.le_refl _, h0⟩, ?_⟩
    rintro i m H' ⟨rfl, hi', G', ws, acc, ρ1, e1, St1, r1, la, hI⟩
    by_cases hlt : i < xs.length
    · have hxi : xs[i]? = some xs[i] := List.getElem?_eq_getElem hlt
      have hd' : (xs.map enc)[i]? = some (enc xs[i]) := by rw [List.getElem?_map, hxi]; rfl
      obtain ⟨ρ2, hg, ht⟩ := hs i xs[i] acc ρ1 hxi la hI
      refine .inr ⟨Wk.go i G' H' e1 St1.gr.s (by rw [hl]; exact hlt), fun H'' => i + 1 ≤ xs.length ∧ ∃ G' ws acc ρ1, Ex G1 G' ∧ Sat K G0 (upd B0 D (.lst ws)) ρ1 σ G' H'' ∧ DRs K G' ws acc ∧ acc.length ≤ i + 1 ∧ I (i + 1) acc ρ1, fun H'' p => ⟨xs.length - (i + 1), by omega, rfl, p⟩, fun x H'' hy => ?_⟩
      obtain ⟨G3, g3, rx⟩ := Wk.yld i G' H' x H'' _ e1 St1.gr.s hd' hy
      have S3 := (St1.grow g3).wipe vs
      refine hg _ _ _ _ _ _ S3 rx _ fun σ2 S4 ew => ⟨by rw [ew, wipe_wipe], ht _ _ _ _ _ S4 _ (fun b ρ3 G4 H4 hb S5 e5 => ?_) fun _ _ _ _ _ _ z _ _ => z.elim⟩
      have ew2 : L2.wipe σ2 vs = L2.wipe σ vs := by rw [ew, wipe_wipe]
      cases b with
      | false =>
        rw [if_neg (by simp)]
        exact ⟨hlt, G4, ws, acc, _, (e1.trans g3.g).trans e5, S5.unwipe ew2, r1.mono (g3.g.trans e5), by omega, hb.2 rfl⟩
      | true =>
        rw [if_pos rfl]
        refine hb.1 rfl _ _ _ _ _ S5 _ (fun y v ρ4 G5 H5 hIy S6 e6 ry => ?_) fun _ _ _ _ _ _ z _ _ => z.elim
        have hD5 : H5 D = some (.lst ws) := S6.gr.h D _ upd_same
        have S7 : Sat K G0 (upd B0 D (.lst (ws ++ [v]))) (wipeS ρ4 vs) σ G5 (upd H5 D (.lst (ws ++ [v]))) := (S6.setBase hG0 (.lst (ws ++ [v]))).unwipe ew2
        refine ⟨ws, hD5, by rw [r1.length]; omega, hlt, G5, ws ++ [v], acc ++ [y], _, ((e1.trans g3.g).trans e5).trans e6, S7, (r1.mono ((g3.g.trans e5).trans e6)).append (.cons ry .nil), ?_, hIy⟩
        rw [List.length_append]
        simp only [List.length_cons, List.length_nil]
        omega
    · have ei : i = xs.length := by omega
      subst ei
      refine .inl ⟨Wk.stop _ G' H' e1 St1.gr.s (by rw [hl]; exact Nat.le_refl _), ?_⟩
      obtain ⟨S8, e8⟩ := St1.frzBase hG0 hB0
      exact q (.lst acc) (.ref D) ρ1 (upd G' D (.lst ws)) H' (hd _ _ hI) S8 ((g1.g.trans e1).trans e8) (.lst upd_same (r1.mono e8))
end
end DL

set_option Elab.async false
set_option linter.all false
set_option maxRecDepth 100000
set_option maxHeartbeats 1000000
/-! DLo: things within one's own that are changed -/
namespace DL
open PySem PySem.Spec PyProof.Rows L2
open Evl (Ex ex_l ex_t fresh_back)
section
variable {K : PySem.W.Frag} {G H G' H' G0 B0 : Hp} {ρ : List Sl} {σ : L2.St}
theorem Chg.pre {G1 H1 : Hp} {S S' : List Addr} (g : Grow G H G1 H1) (hS : ∀ a ∈ S, G a = none ∧ H a ≠ none) (c : Chg G1 H1 S G' H' S') : Chg G H S G' H' S' :=
  (Chg.of g hS).trans c fun a ha => ex_some_ne g.h (hS a ha).2
theorem Chg.sub {T T' : List Addr} (c : Chg G H T G' H' T') {S : List Addr} (hT : ∀ a ∈ T, a ∈ S) {S' : List Addr} (h : ∀ a ∈ S', a ∈ T' ∨ (a ∈ S ∧ a ∉ T)) (hG : ∀ a ∈ S, G a = none ∧ H a ≠ none) : Chg G H S G' H' S' where
  g := c.g
  s := c.s
  k := fun a u ha hu => c.k a u (fun z => ha (hT a z)) hu
  m := fun a h1 h2 h3 => c.m a h1 h2 fun z => h3 (hT a z)
  n := fun a ha => by
    rcases h a ha with z | ⟨z1, z2⟩
    · obtain ⟨y1, y2⟩ := c.n a z
      exact ⟨y1.imp (hT a) id, y2⟩
    · exact ⟨.inl z1, c.m a (hG a z1).1 (hG a z1).2 z2⟩
/-- what is looked at within, and how it is put back -/
def Inner (K : PySem.W.Frag) (G H : Hp) (v : V) (o : OD) (T S : List Addr) (back : Hp → Hp → OD → List Addr → Prop) : Prop :=
  OR K G H v o T ∧ (∀ a ∈ T, a ∈ S) ∧ ∀ o' G' H' T', Chg G H T G' H' T' → OR K G' H' v o' T' → ∃ S', back G' H' o' S' ∧ ∀ a ∈ S', a ∈ T' ∨ (a ∈ S ∧ a ∉ T)
theorem inner_here {v : V} {o : OD} {S1 S2 : List Addr} {β : Hp → Hp → OD → List Addr → Prop} (h : OR K G H v o S1) (dj : ∀ a ∈ S1, a ∉ S2) (th : ∀ a ∈ S2, H a ≠ none)
    (hb : ∀ o' G' H' T', Chg G H S1 G' H' T' → OR K G' H' v o' T' → (∀ a ∈ T', a ∉ S2) → (∀ a ∈ S2, ∀ u, H a = some u → H' a = some u) → β G' H' o' (T' ++ S2)) : Inner K G H v o S1 (S1 ++ S2) β :=
  ⟨h, fun a ha => List.mem_append_left _ ha, fun o' G' H' T' c r => ⟨T' ++ S2, hb o' G' H' T' c r (fun a h1 h2 => by
      rcases (c.n a h1).1 with z | z
      · exact dj a z h2
      · exact th a h2 z) (fun a ha u hu => c.k a u (fun z => dj a z ha) hu), fun a ha => by
    rcases List.mem_append.mp ha with z | z
    · exact .inl z
    · exact .inr ⟨List.mem_append_right _ z, fun y => dj a y z⟩⟩⟩
theorem inner_tail {v : V} {o : OD} {T S1 S2 : List Addr} {β γ : Hp → Hp → OD → List Addr → Prop} (dj : ∀ a ∈ S1, a ∉ S2) (th : ∀ a ∈ S1, H a ≠ none) (h : Inner K G H v o T S2 γ)
    (hb : ∀ o' G' H' T' S', Chg G H T G' H' T' → γ G' H' o' S' → (∀ a ∈ S1, a ∉ S') → (∀ a ∈ S1, ∀ u, H a = some u → H' a = some u) → β G' H' o' (S1 ++ S')) : Inner K G H v o T (S1 ++ S2) β := by
  obtain ⟨h1, h2, h3⟩ := h
  refine ⟨h1, fun a ha => List.mem_append_right _ (h2 a ha), fun o' G' H' T' c r => ?_⟩
  obtain ⟨S', b, k⟩ := h3 o' G' H' T' c r
  refine ⟨S1 ++ S', hb o' G' H' T' S' c b (fun a ha hs => ?_) (fun a ha u hu => c.k a u (fun z => dj a ha (h2 a z)) hu), fun a ha => ?_⟩
  · rcases k a hs with z | ⟨z, _⟩
    · rcases (c.n a z).1 with y | y
      · exact dj a ha (h2 a y)
      · exact th a ha y
    · exact dj a ha z
  · rcases List.mem_append.mp ha with z | z
    · exact .inr ⟨List.mem_append_left _ z, fun y => dj a z (h2 a y)⟩
    · rcases k a z with y | ⟨y1, y2⟩
      · exact .inl y
      · exact .inr ⟨List.mem_append_right _ y1, y2⟩
theorem ORs.inner : ∀ {vs : List V} {os : List OD} {S : List Addr} {n : Nat} {o : OD}, ORs K G H vs os S → os[n]? = some o → ∃ v T, vs[n]? = some v ∧ Inner K G H v o T S fun G' H' o' S' => ORs K G' H' vs (os.set n o') S'
  | _, _, _, n, o, .nil, e => by simp at e
  | _, _, _, 0, o, @ORs.cons _ _ _ v vs o0 os S1 S2 h r dj, e => by
    simp only [List.getElem?_cons_zero, Option.some.injEq] at e
    subst e
    exact ⟨v, S1, rfl, inner_here h dj r.there fun o' G' H' T' c r' d2 kp => .cons r' (r.keep c.g kp) d2⟩
  | _, _, _, n + 1, o, @ORs.cons _ _ _ v vs o0 os S1 S2 h r dj, e => by
    obtain ⟨w, T, e1, I⟩ := ORs.inner (n := n) (o := o) r (by simpa using e)
    exact ⟨w, T, by simpa using e1, inner_tail dj h.there I fun o' G' H' T' S' c b d2 kp => .cons (h.keep c.g kp) b d2⟩
theorem ORf.inner {f : Str} : ∀ {vs : List (Str × V)} {os : List (Str × OD)} {S : List Addr} {o : OD}, ORf K G H vs os S → os.lookup f = some o → ∃ v T, vs.lookup f = some v ∧ Inner K G H v o T S fun G' H' o' S' => ORf K G' H' vs (putO f o' os) S'
  | _, _, _, o, .nil, e => by simp at e
  | _, _, _, o, @ORf.cons _ _ _ x v vs o0 os S1 S2 h r dj, e => by
    rw [List.lookup_cons] at e ⊢
    cases q : (f == x) with
    | true =>
      rw [q] at e
      cases e
      have qe : x = f := (eq_of_beq q).symm
      refine ⟨v, S1, rfl, inner_here h dj r.there fun o' G' H' T' c r' d2 kp => ?_⟩
      show ORf K G' H' ((x, v) :: vs) (if x = f then (x, o') :: os else (x, o) :: putO f o' os) _
      rw [if_pos qe]
      exact .cons r' (r.keep c.g kp) d2
    | false =>
      rw [q] at e
      have qe : ¬ x = f := fun z => by rw [z] at q; simp at q
      obtain ⟨w, T, e1, I⟩ := ORf.inner (o := o) r e
      refine ⟨w, T, e1, inner_tail dj h.there I fun o' G' H' T' S' c b d2 kp => ?_⟩
      show ORf K G' H' ((x, v) :: vs) (if x = f then (x, o') :: os else (x, o0) :: putO f o' os) _
      rw [if_neg qe]
      exact .cons (h.keep c.g kp) b d2
end
/-! dicts -/
section
variable {κ α β : Type} [DecidableEq κ]
def getA : List (κ × α) → κ → Option α
  | [], _ => none
  | (j, x) :: r, k => if j = k then some x else getA r k
def putA (kvs : List (κ × α)) (k : κ) (y : α) : List (κ × α) := if (getA kvs k).isSome = true then kvs.map (fun kv => if kv.1 = k then (kv.1, y) else kv) else kvs ++ [(k, y)]
/-- where it stands already -/
def setA : List (κ × α) → κ → α → List (κ × α)
  | [], _, _ => []
  | (j, x) :: r, k, y => if j = k then (j, y) :: r else (j, x) :: setA r k y
theorem valV_getA (k : κ) : ∀ kvs : List (κ × V), valV kvs k = getA kvs k
  | [] => rfl
  | (j, x) :: r => by
    by_cases e : j = k
    · rw [valV_pos e, getA, if_pos e]
    · rw [valV_neg e, getA, if_neg e, valV_getA k r]
theorem putK_putA (kvs : List (κ × V)) (k : κ) (v : V) : putK kvs k v = putA kvs k v := by
  unfold putK putA
  rw [valV_any, valV_getA]
theorem putA_new {kvs : List (κ × α)} {k : κ} {y : α} (h : getA kvs k = none) : putA kvs k y = kvs ++ [(k, y)] := by
  unfold putA; rw [h]; rfl
theorem putA_len_le (kvs : List (κ × α)) (k : κ) (y : α) : (putA kvs k y).length ≤ kvs.length + 1 := by
  unfold putA
  split
  · rw [List.length_map]; omega
  · rw [List.length_append]; exact Nat.le_refl _
end
section
variable {K : PySem.W.Frag} {G H G' H' G0 B0 : Hp} {ρ : List Sl} {σ : L2.St}
theorem DRk.length : ∀ {vs : List (Key × V)} {ds : List (Key × Dat)}, DRk K G vs ds → vs.length = ds.length
  | _, _, .nil => rfl
  | _, _, .cons _ r => by rw [List.length_cons, List.length_cons, DRk.length r]
theorem DRk.get {k : Key} : ∀ {vs : List (Key × V)} {ds : List (Key × Dat)} {d : Dat}, DRk K G vs ds → getA ds k = some d → ∃ v, getA vs k = some v ∧ DR K G v d
  | _, _, _, .nil, e => by cases e
  | _, _, d, @DRk.cons _ _ x v vs d0 ds h r, e => by
    unfold getA at e ⊢
    by_cases q : x = k
    · rw [if_pos q] at e ⊢; cases e; exact ⟨v, rfl, h⟩
    · rw [if_neg q] at e ⊢; exact DRk.get r e
theorem DRk.getNone {k : Key} : ∀ {vs : List (Key × V)} {ds : List (Key × Dat)}, DRk K G vs ds → getA ds k = none → getA vs k = none
  | _, _, .nil, e => rfl
  | _, _, @DRk.cons _ _ x v vs d0 ds h r, e => by
    unfold getA at e ⊢
    by_cases q : x = k
    · rw [if_pos q] at e; cases e
    · rw [if_neg q] at e ⊢; exact DRk.getNone r e
theorem DRk.append : ∀ {vs ws : List (Key × V)} {ds es : List (Key × Dat)}, DRk K G vs ds → DRk K G ws es → DRk K G (vs ++ ws) (ds ++ es)
  | _, _, _, _, .nil, s => s
  | _, _, _, _, .cons h r, s => .cons h (DRk.append r s)
theorem DRk.mapAt {k : Key} {v : V} {d : Dat} (hv : DR K G v d) : ∀ {vs : List (Key × V)} {ds : List (Key × Dat)}, DRk K G vs ds → DRk K G (vs.map fun kv => if kv.1 = k then (kv.1, v) else kv) (ds.map fun kv => if kv.1 = k then (kv.1, d) else kv)
  | _, _, .nil => .nil
  | _, _, @DRk.cons _ _ x v0 vs d0 ds h r => by
    rw [List.map_cons, List.map_cons]
    by_cases q : x = k
    · rw [if_pos q, if_pos q]; exact .cons hv (DRk.mapAt hv r)
    · rw [if_neg q, if_neg q]; exact .cons h (DRk.mapAt hv r)
theorem DRk.put {k : Key} {v : V} {d : Dat} {vs : List (Key × V)} {ds : List (Key × Dat)} (r : DRk K G vs ds) (hv : DR K G v d) : DRk K G (putA vs k v) (putA ds k d) := by
  unfold putA
  cases q : getA ds k with
  | none => rw [r.getNone q]; exact r.append (.cons hv .nil)
  | some e =>
    obtain ⟨w, h1, _⟩ := r.get q
    rw [h1]
    exact DRk.mapAt hv r
theorem ORk.length : ∀ {vs : List (Key × V)} {os : List (Key × OD)} {S : List Addr}, ORk K G H vs os S → vs.length = os.length
  | _, _, _, .nil => rfl
  | _, _, _, .cons _ r _ => by rw [List.length_cons, List.length_cons, ORk.length r]
theorem ORk.getNone {k : Key} : ∀ {vs : List (Key × V)} {os : List (Key × OD)} {S : List Addr}, ORk K G H vs os S → getA os k = none → getA vs k = none
  | _, _, _, .nil, e => rfl
  | _, _, _, @ORk.cons _ _ _ x v vs o os S1 S2 h r n, e => by
    unfold getA at e ⊢
    by_cases q : x = k
    · rw [if_pos q] at e; cases e
    · rw [if_neg q] at e ⊢; exact ORk.getNone r e
theorem ORk.inner {k : Key} : ∀ {vs : List (Key × V)} {os : List (Key × OD)} {S : List Addr} {o : OD}, ORk K G H vs os S → getA os k = some o → ∃ v T, getA vs k = some v ∧ Inner K G H v o T S fun G' H' o' S' => ORk K G' H' vs (setA os k o') S'
  | _, _, _, o, .nil, e => by cases e
  | _, _, _, o, @ORk.cons _ _ _ x v vs o0 os S1 S2 h r dj, e => by
    unfold getA at e
    by_cases q : x = k
    · rw [if_pos q] at e
      cases e
      refine ⟨v, S1, by unfold getA; rw [if_pos q], inner_here h dj r.there fun o' G' H' T' c r' d2 kp => ?_⟩
      show ORk K G' H' _ (if x = k then (x, o') :: os else (x, o) :: setA os k o') _
      rw [if_pos q]
      exact .cons r' (r.keep c.g kp) d2
    · rw [if_neg q] at e
      obtain ⟨w, T, e1, I⟩ := ORk.inner (o := o) r e
      refine ⟨w, T, by unfold getA; rw [if_neg q]; exact e1, inner_tail dj h.there I fun o' G' H' T' S' c b d2 kp => ?_⟩
      show ORk K G' H' _ (if x = k then (x, o') :: os else (x, o0) :: setA os k o') _
      rw [if_neg q]
      exact .cons (h.keep c.g kp) b d2
theorem ORk.snoc {k : Key} {v : V} {o : OD} {T : List Addr} (h : OR K G H v o T) : ∀ {vs : List (Key × V)} {os : List (Key × OD)} {S : List Addr}, ORk K G H vs os S → (∀ a ∈ S, a ∉ T) → ORk K G H (vs ++ [(k, v)]) (os ++ [(k, o)]) (S ++ T)
  | _, _, _, .nil, _ => by
    have := ORk.cons (x := k) h .nil (fun a _ z => by cases z)
    rw [List.append_nil] at this
    exact this
  | _, _, _, @ORk.cons _ _ _ x v0 vs o0 os S1 S2 h0 r n, dj => by
    have ih := ORk.snoc (k := k) h r fun a ha => dj a (List.mem_append_right _ ha)
    rw [List.append_assoc]
    refine .cons h0 ih fun a ha hb => ?_
    rcases List.mem_append.mp hb with z | z
    · exact n a ha z
    · exact dj a (List.mem_append_left _ ha) z
theorem ORs.snoc {v : V} {o : OD} {T : List Addr} (h : OR K G H v o T) : ∀ {vs : List V} {os : List OD} {S : List Addr}, ORs K G H vs os S → (∀ a ∈ S, a ∉ T) → ORs K G H (vs ++ [v]) (os ++ [o]) (S ++ T)
  | _, _, _, .nil, _ => by
    have := ORs.cons h .nil (fun a _ z => by cases z)
    rw [List.append_nil] at this
    exact this
  | _, _, _, @ORs.cons _ _ _ v0 vs o0 os S1 S2 h0 r n, dj => by
    have ih := ORs.snoc h r fun a ha => dj a (List.mem_append_right _ ha)
    rw [List.append_assoc]
    refine .cons h0 ih fun a ha hb => ?_
    rcases List.mem_append.mp hb with z | z
    · exact n a ha z
    · exact dj a (List.mem_append_left _ ha) z
theorem ORs.length : ∀ {vs : List V} {os : List OD} {S : List Addr}, ORs K G H vs os S → vs.length = os.length
  | _, _, _, .nil => rfl
  | _, _, _, .cons _ r _ => by rw [List.length_cons, List.length_cons, ORs.length r]
/-! lists and dicts of data, as lists and dicts of things -/
theorem ORs.ofDat : ∀ {vs : List V} {ds : List Dat}, DRs K G vs ds → ORs K G H vs (ds.map .dat) []
  | _, _, .nil => .nil
  | _, _, .cons h r => .cons (S := []) (T := []) (.dat h) (ORs.ofDat r) fun a z => by cases z
theorem ORk.ofDat : ∀ {vs : List (Key × V)} {ds : List (Key × Dat)}, DRk K G vs ds → ORk K G H vs (ds.map fun kd => (kd.1, .dat kd.2)) []
  | _, _, .nil => .nil
  | _, _, .cons h r => .cons (S := []) (T := []) (.dat h) (ORk.ofDat r) fun a z => by cases z
theorem OR.plLst {v : V} {ds : List Dat} {S : List Addr} (h : OR K G H v (.pl ds) S) : OR K G H v (.lst (ds.map .dat)) S := by
  cases h with
  | pl h r => exact .lst h (.ofDat r) (by simp)
theorem OR.pdDct {v : V} {ds : List (Key × Dat)} {S : List Addr} (h : OR K G H v (.pd ds) S) : OR K G H v (.dct (ds.map fun kd => (kd.1, .dat kd.2))) S := by
  cases h with
  | pd h r => exact .dct h (.ofDat r) (by simp)

/-! ### a thing in the slot i, at v; wrap tells what the slot holds when another one is put there -/
def FocP (K : PySem.W.Frag) (G0 B0 : Hp) (ρ : List Sl) (σ : L2.St) (i : Nat) (v : V) (o : OD) (wrap : OD → OD) (G H : Hp) : Prop :=
  ∃ T, OR K G H v o T ∧ (∀ a ∈ T, G a = none ∧ B0 a = none) ∧ ∀ o' G' H' T', Chg G H T G' H' T' → OR K G' H' v o' T' → Sat K G0 B0 (ρ.set i (.mt (wrap o'))) σ G' H'
variable {i : Nat} {v : V} {o : OD} {wrap : OD → OD}
theorem FocP.grow (h : FocP K G0 B0 ρ σ i v o wrap G H) (g : Grow G H G' H') : FocP K G0 B0 ρ σ i v o wrap G' H' := by
  obtain ⟨T, h1, h2, h3⟩ := h
  have hT : ∀ a ∈ T, G a = none ∧ H a ≠ none := fun a ha => ⟨(h2 a ha).1, h1.there a ha⟩
  exact ⟨T, h1.keep g.g fun a _ u hu => g.h a u hu, fun a ha => ⟨g.m a (hT a ha).1 (hT a ha).2, (h2 a ha).2⟩, fun o' G2 H2 T' c r => h3 o' G2 H2 T' (Chg.pre g hT c) r⟩
theorem Sat.foc (S : Sat K G0 B0 ρ σ G H) (h : ρ[i]? = some (.mt o)) : ∃ v, σ[i]? = some (some v) ∧ FocP K G0 B0 ρ σ i v o id G H := by
  obtain ⟨v, T, h1, h2, h3, h4⟩ := S.at h
  exact ⟨v, h1, T, h2, h3, h4⟩
/-- one step inwards -/
theorem FocP.step {w : V} {o2 : OD} {S T : List Addr} {a : Addr} {f : OD → OD} (hS : ∀ b ∈ a :: S, G b = none ∧ B0 b = none) (ha : a ∉ S) (hH : H a ≠ none) (th : ∀ b ∈ S, H b ≠ none)
    (hput : ∀ o' G' H' T', Chg G H (a :: S) G' H' T' → OR K G' H' (.ref a) o' T' → Sat K G0 B0 (ρ.set i (.mt (wrap o'))) σ G' H')
    {γ : Hp → Hp → OD → List Addr → Prop} (I : Inner K G H w o2 T S γ) (hb : ∀ o' G' H' S', γ G' H' o' S' → (∀ u, H a = some u → H' a = some u) → a ∉ S' → OR K G' H' (.ref a) (f o') (a :: S')) :
    FocP K G0 B0 ρ σ i w o2 (fun x => wrap (f x)) G H := by
  obtain ⟨h1, h2, h3⟩ := I
  have hG : ∀ b ∈ a :: S, G b = none ∧ H b ≠ none := fun b hb => ⟨(hS b hb).1, by
    rcases List.mem_cons.mp hb with z | z
    · rw [z]; exact hH
    · exact th b z⟩
  have aT : a ∉ T := fun z => ha (h2 a z)
  refine ⟨T, h1, fun b hb => hS b (.tail _ (h2 b hb)), fun o' G' H' T' c r => ?_⟩
  obtain ⟨S', b1, b2⟩ := h3 o' G' H' T' c r
  have aS' : a ∉ S' := fun z => by
    rcases b2 a z with y | ⟨y, _⟩
    · rcases (c.n a y).1 with x | x
      · exact aT x
      · exact hH x
    · exact ha y
  refine hput (f o') G' H' (a :: S') (c.sub (fun b hb => .tail _ (h2 b hb)) (fun b hb => ?_) hG) (hb o' G' H' S' b1 (fun u hu => c.k a u aT hu) aS')
  rcases List.mem_cons.mp hb with z | z
  · rw [z]; exact .inr ⟨.head _, aT⟩
  · rcases b2 b z with y | ⟨y1, y2⟩
    · exact .inl y
    · exact .inr ⟨.tail _ y1, y2⟩
theorem FocP.fld {C : Addr} {f : Str} {fs : List (Str × OD)} {o2 : OD} (h : FocP K G0 B0 ρ σ i v (.ins C fs) wrap G H) (hl : fs.lookup f = some o2) :
    ∃ a dx vs w, v = .ref a ∧ H a = some (.ins C dx vs) ∧ vs.lookup f = some w ∧ FocP K G0 B0 ρ σ i w o2 (fun x => wrap (.ins C (putO f x fs))) G H := by
  obtain ⟨T, h1, h2, h3⟩ := h
  cases h1 with
  | @ins a _ dx vs _ S hH r n =>
    obtain ⟨w, T2, e, I⟩ := r.inner hl
    exact ⟨a, dx, vs, w, rfl, hH, e, FocP.step (f := fun x => .ins C (putO f x fs)) h2 n (by rw [hH]; simp) r.there h3 I fun o' G' H' S' g hk na => .ins (hk _ hH) g na⟩
theorem FocP.idx {os : List OD} {n : Nat} {o2 : OD} (h : FocP K G0 B0 ρ σ i v (.lst os) wrap G H) (hl : os[n]? = some o2) :
    ∃ a vs w, v = .ref a ∧ H a = some (.lst vs) ∧ vs.length = os.length ∧ vs[n]? = some w ∧ FocP K G0 B0 ρ σ i w o2 (fun x => wrap (.lst (os.set n x))) G H := by
  obtain ⟨T, h1, h2, h3⟩ := h
  cases h1 with
  | @lst a vs _ S hH r nn =>
    obtain ⟨w, T2, e, I⟩ := r.inner hl
    exact ⟨a, vs, w, rfl, hH, r.length, e, FocP.step (f := fun x => .lst (os.set n x)) h2 nn (by rw [hH]; simp) r.there h3 I fun o' G' H' S' g hk na => .lst (hk _ hH) g na⟩
theorem FocP.tix {os : List OD} {n : Nat} {o2 : OD} (h : FocP K G0 B0 ρ σ i v (.tup os) wrap G H) (hl : os[n]? = some o2) :
    ∃ a vs w, v = .ref a ∧ H a = some (.tup vs) ∧ vs.length = os.length ∧ vs[n]? = some w ∧ FocP K G0 B0 ρ σ i w o2 (fun x => wrap (.tup (os.set n x))) G H := by
  obtain ⟨T, h1, h2, h3⟩ := h
  cases h1 with
  | @tup a vs _ S hH r nn =>
    obtain ⟨w, T2, e, I⟩ := r.inner hl
    exact ⟨a, vs, w, rfl, hH, r.length, e, FocP.step (f := fun x => .tup (os.set n x)) h2 nn (by rw [hH]; simp) r.there h3 I fun o' G' H' S' g hk na => .tup (hk _ hH) g na⟩
theorem FocP.key {kvs : List (Key × OD)} {k : Key} {o2 : OD} (h : FocP K G0 B0 ρ σ i v (.dct kvs) wrap G H) (hl : getA kvs k = some o2) :
    ∃ a vs w, v = .ref a ∧ H a = some (.dK vs) ∧ getA vs k = some w ∧ FocP K G0 B0 ρ σ i w o2 (fun x => wrap (.dct (setA kvs k x))) G H := by
  obtain ⟨T, h1, h2, h3⟩ := h
  cases h1 with
  | @dct a vs _ S hH r nn =>
    obtain ⟨w, T2, e, I⟩ := r.inner hl
    exact ⟨a, vs, w, rfl, hH, e, FocP.step (f := fun x => .dct (setA kvs k x)) h2 nn (by rw [hH]; simp) r.there h3 I fun o' G' H' S' g hk na => .dct (hk _ hH) g na⟩
theorem FocP.me {a : Addr} (h : FocP K G0 B0 ρ σ i v (.me a o) wrap G H) : v = .ref a ∧ FocP K G0 B0 ρ σ i v o (fun x => wrap (.me a x)) G H := by
  obtain ⟨T, h1, h2, h3⟩ := h
  cases h1 with
  | me r => exact ⟨rfl, T, r, h2, fun o' G' H' T' c r' => h3 (.me a o') G' H' T' c (.me r')⟩
/-- seen otherwise -/
theorem FocP.as {o2 : OD} (h : FocP K G0 B0 ρ σ i v o wrap G H) (hc : ∀ T, OR K G H v o T → OR K G H v o2 T) : FocP K G0 B0 ρ σ i v o2 wrap G H := by
  obtain ⟨T, h1, h2, h3⟩ := h
  exact ⟨T, hc T h1, h2, h3⟩
/-- nothing is changed: the slot's thing is told so -/
theorem FocP.back (h : FocP K G0 B0 ρ σ i v o wrap G H) (e : Ex G H) : Sat K G0 B0 (ρ.set i (.mt (wrap o))) σ G H := by
  obtain ⟨T, h1, h2, h3⟩ := h
  exact h3 o G H T (Chg.refl e fun a ha => (h2 a ha).1) h1
/-! ### what is written there -/
theorem chg1 {p : Addr} {S : List Addr} {u : HO} (e : Ex G H) (hp : G p = none) (hS : ∀ b ∈ p :: S, G b = none) : Chg G H (p :: S) G (upd H p u) (p :: S) :=
  ⟨Evl.Ex.refl _, e.mut hp, fun a w ha hw => by rw [upd_ne (fun z => ha (by rw [z]; exact .head _))]; exact hw, fun a h _ _ => h, fun a ha => ⟨.inl ha, hS a ha⟩⟩
theorem FocP.putL {ds es : List Dat} {p : Addr} {vs : List V} (h : FocP K G0 B0 ρ σ i (.ref p) (.pl ds) wrap G H) (e : Ex G H) (r : DRs K G vs es) : Sat K G0 B0 (ρ.set i (.mt (wrap (.pl es)))) σ G (upd H p (.lst vs)) := by
  obtain ⟨T, h1, h2, h3⟩ := h
  cases h1 with
  | pl hH _ => exact h3 (.pl es) G _ [p] (chg1 e (h2 p (.head _)).1 fun b hb => (h2 b hb).1) (.pl upd_same r)
theorem FocP.putD {ds es : List (Key × Dat)} {p : Addr} {vs : List (Key × V)} (h : FocP K G0 B0 ρ σ i (.ref p) (.pd ds) wrap G H) (e : Ex G H) (r : DRk K G vs es) : Sat K G0 B0 (ρ.set i (.mt (wrap (.pd es)))) σ G (upd H p (.dK vs)) := by
  obtain ⟨T, h1, h2, h3⟩ := h
  cases h1 with
  | pd hH _ => exact h3 (.pd es) G _ [p] (chg1 e (h2 p (.head _)).1 fun b hb => (h2 b hb).1) (.pd upd_same r)
theorem FocP.isL {ds : List Dat} (h : FocP K G0 B0 ρ σ i v (.pl ds) wrap G H) : ∃ p vs, v = .ref p ∧ H p = some (.lst vs) ∧ DRs K G vs ds := by
  obtain ⟨T, h1, h2, h3⟩ := h
  cases h1 with
  | pl hH r => exact ⟨_, _, rfl, hH, r⟩
theorem FocP.isD {ds : List (Key × Dat)} (h : FocP K G0 B0 ρ σ i v (.pd ds) wrap G H) : ∃ p vs, v = .ref p ∧ H p = some (.dK vs) ∧ DRk K G vs ds := by
  obtain ⟨T, h1, h2, h3⟩ := h
  cases h1 with
  | pd hH r => exact ⟨_, _, rfl, hH, r⟩
/-- what is there is told to others -/
theorem FocP.freeze (h : FocP K G0 B0 ρ σ i v o wrap G H) (e : Ex G H) : ∃ G', Sat K G0 B0 (ρ.set i (.mt (wrap (.dat (frz o))))) σ G' H ∧ Ex G G' ∧ DR K G' v (frz o) := by
  classical
  obtain ⟨T, h1, h2, h3⟩ := h
  have eg : Ex G (fun a => if a ∈ T then H a else G a) := fun a u hu => by
    show (if a ∈ T then H a else G a) = some u
    rw [if_neg (fun z => by rw [(h2 a z).1] at hu; cases hu)]
    exact hu
  have es : Ex (fun a => if a ∈ T then H a else G a) H := fun a u hu => by
    have hu : (if a ∈ T then H a else G a) = some u := hu
    by_cases z : a ∈ T
    · rw [if_pos z] at hu; exact hu
    · rw [if_neg z] at hu; exact e a u hu
  have rd : DR K (fun a => if a ∈ T then H a else G a) v (frz o) := h1.frz eg fun a ha u hu => by
    show (if a ∈ T then H a else G a) = some u
    rw [if_pos ha]; exact hu
  refine ⟨_, h3 (.dat (frz o)) _ H [] ⟨eg, es, fun a u _ hu => hu, fun a q1 q2 q3 => ?_, fun a ha => by cases ha⟩ (.dat rd), eg, rd⟩
  show (if a ∈ T then H a else G a) = none
  rw [if_neg q3]; exact q1
end
end DL

set_option Elab.async false
set_option linter.all false
set_option maxRecDepth 100000
set_option maxHeartbeats 1000000
/-! DLp: paths to things of one's own; what is changed there; defs and methods that change what they are handed -/
namespace DL
open PySem PySem.Spec PyProof.Rows L2
open Evl (Ex ex_l ex_t fresh_back)
def FocA (K : PySem.W.Frag) (ρ : List Sl) (i : Nat) (o : OD) (wrap : OD → OD) : Prop := ∀ G0 B0 σ G H, Sat K G0 B0 ρ σ G H → ∃ v, FocP K G0 B0 ρ σ i v o wrap G H
def SemF (K : PySem.W.Frag) (t : TE) (ρ : List Sl) (i : Nat) (o : OD) (wrap : OD → OD) : Prop :=
  ∀ G0 B0 σ G H, Sat K G0 B0 ρ σ G H → ∀ Q : VK, (∀ v G' H', Grow G H G' H' → FocP K G0 B0 ρ σ i v o wrap G' H' → Q v H') → t σ H Q
section
variable {K : PySem.W.Frag} {W : WX} {ρ : List Sl} {t ta tb tc te to : TE} {a b c d : Dat} {P : Post} {i : Nat} {o o2 : OD} {wrap : OD → OD} {C : Addr} {S S' : SP} {X X' : XP}
/-! places -/
theorem fa_var (h : ρ[i]? = some (.mt o)) : FocA K ρ i o id := fun G0 B0 σ G H S => let ⟨v, _, f⟩ := S.foc h; ⟨v, f⟩
theorem fa_fld {f : Str} {fs : List (Str × OD)} (h : FocA K ρ i (.ins C fs) wrap) (hl : fs.lookup f = some o2) : FocA K ρ i o2 (fun x => wrap (.ins C (putO f x fs))) := fun G0 B0 σ G H S => by
  obtain ⟨v, F⟩ := h _ _ _ _ _ S
  obtain ⟨_, _, _, w, _, _, _, F2⟩ := F.fld hl
  exact ⟨w, F2⟩
theorem fa_idx {os : List OD} {n : Nat} (h : FocA K ρ i (.lst os) wrap) (hl : os[n]? = some o2) : FocA K ρ i o2 (fun x => wrap (.lst (os.set n x))) := fun G0 B0 σ G H S => by
  obtain ⟨v, F⟩ := h _ _ _ _ _ S
  obtain ⟨_, _, w, _, _, _, _, F2⟩ := F.idx hl
  exact ⟨w, F2⟩
theorem fa_tix {os : List OD} {n : Nat} (h : FocA K ρ i (.tup os) wrap) (hl : os[n]? = some o2) : FocA K ρ i o2 (fun x => wrap (.tup (os.set n x))) := fun G0 B0 σ G H S => by
  obtain ⟨v, F⟩ := h _ _ _ _ _ S
  obtain ⟨_, _, w, _, _, _, _, F2⟩ := F.tix hl
  exact ⟨w, F2⟩
theorem fa_key {kvs : List (Key × OD)} {k : Key} (h : FocA K ρ i (.dct kvs) wrap) (hl : getA kvs k = some o2) : FocA K ρ i o2 (fun x => wrap (.dct (setA kvs k x))) := fun G0 B0 σ G H S => by
  obtain ⟨v, F⟩ := h _ _ _ _ _ S
  obtain ⟨_, _, w, _, _, _, F2⟩ := F.key hl
  exact ⟨w, F2⟩
theorem fa_me {p : Addr} (h : FocA K ρ i (.me p o) wrap) : FocA K ρ i o (fun x => wrap (.me p x)) := fun G0 B0 σ G H S => by
  obtain ⟨v, F⟩ := h _ _ _ _ _ S
  exact ⟨v, F.me.2⟩
/-! paths -/
theorem f_var (h : ρ[i]? = some (.mt o)) : SemF K (tVar i) ρ i o id := fun G0 B0 σ G H S Q q => by
  obtain ⟨v, h1, f⟩ := S.foc h
  exact ⟨v, h1, q v G H (Grow.refl S.gr.s) f⟩
theorem f_fld {f : Str} {fs : List (Str × OD)} (h : SemF K te ρ i (.ins C fs) wrap) (cl : Cls K C) (hn : NoAttr K C f) (hl : fs.lookup f = some o2) : SemF K (tAt K f te) ρ i o2 (fun x => wrap (.ins C (putO f x fs))) := fun G0 B0 σ G H S Q q =>
  h _ _ _ _ _ S _ fun v G1 H1 g1 F => by
    obtain ⟨a, dx, vs, w, rfl, hH, e, F2⟩ := F.fld hl
    exact .inl ⟨a, C, dx, vs, w, rfl, hH, cl, hn, e, q w G1 H1 g1 F2⟩
theorem f_me {p : Addr} (h : SemF K te ρ i (.me p o) wrap) : SemF K te ρ i o (fun x => wrap (.me p x)) := fun G0 B0 σ G H S Q q =>
  h _ _ _ _ _ S _ fun v G1 H1 g1 F => q v G1 H1 g1 F.me.2
theorem ati_get {α β : Type} {xs : List α} {ys : List β} {j : Int} {y : β} (hl : xs.length = ys.length) (h : atI ys j = some y) : ∃ n : Nat, ys[n]? = some y ∧ ∀ x, xs[n]? = some x → atI xs j = some x := by
  unfold atI at h ⊢
  rw [hl]
  cases q : ixN ys.length j with
  | none => rw [q] at h; cases h
  | some n => rw [q] at h; exact ⟨n, h, fun x hx => hx⟩
theorem f_idx {os : List OD} {j : Int} {ti : TE} (h : SemF K te ρ i (.lst os) wrap) (hy : Sem K ti ρ (.int j)) {n : Nat} (hn : ixN os.length j = some n) (hl : os[n]? = some o2) : SemF K (tOp (rIx K) te ti) ρ i o2 (fun x => wrap (.lst (os.set n x))) := fun G0 B0 σ G H S Q q =>
  h _ _ _ _ _ S _ fun v G1 H1 g1 F => hy _ _ _ _ _ (S.grow g1) _ fun y G2 H2 g2 ry => by
    obtain ⟨a, vs, w, rfl, hH, el, e, F2⟩ := (F.grow g2).idx hl
    cases ry
    refine .inl ⟨a, vs, j, w, rfl, rfl, .inl (.inl hH), ?_, q w G2 H2 (g1.trans g2) F2⟩
    unfold atI
    rw [el, hn]
    exact e
theorem f_tix {os : List OD} {j : Int} {ti : TE} (h : SemF K te ρ i (.tup os) wrap) (hy : Sem K ti ρ (.int j)) {n : Nat} (hn : ixN os.length j = some n) (hl : os[n]? = some o2) : SemF K (tOp (rIx K) te ti) ρ i o2 (fun x => wrap (.tup (os.set n x))) := fun G0 B0 σ G H S Q q =>
  h _ _ _ _ _ S _ fun v G1 H1 g1 F => hy _ _ _ _ _ (S.grow g1) _ fun y G2 H2 g2 ry => by
    obtain ⟨a, vs, w, rfl, hH, el, e, F2⟩ := (F.grow g2).tix hl
    cases ry
    refine .inr (.inl ⟨a, vs, j, w, rfl, rfl, .inl (.inl hH), ?_, q w G2 H2 (g1.trans g2) F2⟩)
    unfold atI
    rw [el, hn]
    exact e
theorem f_key {kvs : List (Key × OD)} {k : Key} {ty : TE} {kd : Dat} (h : SemF K te ρ i (.dct kvs) wrap) (hy : Sem K ty ρ kd) (hk : ∀ G v, DR K G v kd → v = kV k) (hl : getA kvs k = some o2) : SemF K (tDGet te ty) ρ i o2 (fun x => wrap (.dct (setA kvs k x))) := fun G0 B0 σ G H S Q q =>
  h _ _ _ _ _ S _ fun v G1 H1 g1 F => hy _ _ _ _ _ (S.grow g1) _ fun y G2 H2 g2 ry => by
    obtain ⟨a, vs, w, rfl, hH, e, F2⟩ := (F.grow g2).key hl
    have ey := hk _ _ ry
    subst ey
    exact ⟨a, w, rfl, .inl ⟨vs, k, .inl hH, rfl, by rw [valV_getA, e]⟩, q w G2 H2 (g1.trans g2) F2⟩
/-! statements -/
theorem set2 {s1 s2 : Sl} : (ρ.set i s1).set i s2 = ρ.set i s2 := List.set_set ..
theorem ss_appF {ds : List Dat} (hf : SemF K to ρ i (.pl ds) wrap) (h : Sem K te ρ d) (hz : ds.length < sizeLine) (p : P.nx (ρ.set i (.mt (wrap (.pl (ds ++ [d])))))) : SemS K W (tDrop (tBM K "list" rAppend to (tCons te tNil))) ρ P := fun G0 B0 σ G H D S n r b c x =>
  hf _ _ _ _ _ S _ fun v G1 H1 g1 F => by
    obtain ⟨p0, vs0, e0, k0, _⟩ := F.isL
    subst e0
    refine ⟨.inl ⟨rfl, _, .inl (.inl k0)⟩, h _ _ _ _ _ (S.grow g1) _ fun y G2 H2 g2 ry => ?_⟩
    have F2 := F.grow g2
    obtain ⟨p1, vs, e1, k1, r1⟩ := F2.isL
    cases e1
    exact ⟨p0, vs, y, rfl, rfl, k1, by rw [r1.length]; exact hz, n _ _ _ _ p (F2.putL g2.s (r1.append (.cons ry .nil)))⟩
/-- the place is looked up, then what is put there is made, which may change it -/
theorem ss_appE {p0 : Addr} (hf : SemF K to ρ i (.me p0 o) wrap) (ho : ∃ ds, o = .pl ds) (h : SemE K W te ρ S X) (h1 : ∀ d ρ', S d ρ' → ∃ i' ds wrap', FocA K ρ' i' (.me p0 (.pl ds)) wrap' ∧ ds.length < sizeLine ∧ P.nx (ρ'.set i' (.mt (wrap' (.me p0 (.pl (ds ++ [d]))))))) (h2 : ∀ C fs ρ', X C fs ρ' → P.ex C fs ρ') :
    SemS K W (tDrop (tBM K "list" rAppend to (tCons te tNil))) ρ P := fun G0 B0 σ G H D St n r b c x =>
  hf _ _ _ _ _ St _ fun v G1 H1 g1 F => by
    obtain ⟨rfl, F1⟩ := F.me
    obtain ⟨ds0, rfl⟩ := ho
    obtain ⟨p1, vs0, e0, k0, _⟩ := F1.isL
    cases e0
    refine ⟨.inl ⟨rfl, _, .inl (.inl k0)⟩, h _ _ _ _ _ (St.grow g1) _ (fun y v ρ1 G2 H2 hs S2 e2 ry => ?_) fun C fs dd ρ' G' H' hx St' hd => x _ _ _ _ _ _ _ (h2 _ _ _ hx) St' hd⟩
    obtain ⟨i', ds, wrap', fa, hz, p⟩ := h1 _ _ hs
    obtain ⟨w, F2⟩ := fa _ _ _ _ _ S2
    obtain ⟨rfl, F3⟩ := F2.me
    obtain ⟨p1, vs, e1, k1, r1⟩ := F3.isL
    cases e1
    exact ⟨p0, vs, v, rfl, rfl, k1, by rw [r1.length]; exact hz, n _ _ _ _ p (F3.putL S2.gr.s (r1.append (.cons ry .nil)))⟩
/-- xs.append(e), xs a local name -/
theorem ss_appV {ds0 : List Dat} (hi : ρ[i]? = some (.own ds0)) (h : SemE K W te ρ S X) (h1 : ∀ d ρ', S d ρ' → ∃ ds, ρ'[i]? = some (.own ds) ∧ ds.length < sizeLine ∧ P.nx (ρ'.set i (.own (ds ++ [d])))) (h2 : ∀ C fs ρ', X C fs ρ' → P.ex C fs ρ') :
    SemS K W (tDrop (tBM K "list" rAppend (tVar i) (tCons te tNil))) ρ P := fun G0 B0 σ G H D St n r b c x => by
  obtain ⟨p0, vs0, k1, _, _, k4, _⟩ := St.own i ds0 hi
  refine ⟨.ref p0, k1, .inl ⟨rfl, _, .inl (.inl k4)⟩, h _ _ _ _ _ St _ (fun y v ρ1 G2 H2 hs S2 e2 ry => ?_) fun C fs dd ρ' G' H' hx St' hd => x _ _ _ _ _ _ _ (h2 _ _ _ hx) St' hd⟩
  obtain ⟨ds, hi2, hz, p⟩ := h1 _ _ hs
  obtain ⟨p1, vs, l1, l2, l3, l4, l5⟩ := S2.own i ds hi2
  have : p0 = p1 := by rw [k1] at l1; simpa using l1
  subst this
  exact ⟨p0, vs, v, rfl, rfl, l4, by rw [l5.length]; exact hz, n _ _ _ _ p (S2.write hi2 l1 (l5.append (.cons ry .nil)))⟩
/-- d[k] = e, a datum -/
theorem ss_dput {kvs : List (Key × Dat)} {k : Key} {td ty tv : TE} {kd : Dat} (hv : Sem K tv ρ d) (hf : SemF K td ρ i (.pd kvs) wrap) (hy : Sem K ty ρ kd) (hk : ∀ G v, DR K G v kd → v = kV k) (hz : kvs.length < sizeLine) (p : P.nx (ρ.set i (.mt (wrap (.pd (putA kvs k d)))))) : SemS K W (sDPut td ty tv) ρ P := fun G0 B0 σ G H D S n r b c x =>
  hv _ _ _ _ _ S _ fun v G1 H1 g1 rv => hf _ _ _ _ _ (S.grow g1) _ fun w G2 H2 g2 F => hy _ _ _ _ _ ((S.grow g1).grow g2) _ fun y G3 H3 g3 ry => by
    have F3 := F.grow g3
    obtain ⟨p1, vs, e1, k1, r1⟩ := F3.isD
    subst e1
    have ey := hk _ _ ry
    subst ey
    refine ⟨p1, _, rfl, .inl ⟨vs, k, k1, rfl, by rw [r1.length]; exact hz, rfl⟩, n _ σ G3 _ p ?_⟩
    rw [putK_putA]
    exact F3.putD g3.s (r1.put (rv.mono (g2.trans g3).g))
/-- d[k] = a new thing, k being new -/
theorem ss_dputM {kvs : List (Key × OD)} {k : Key} {td ty tv : TE} {kd : Dat} (hv : SemM K tv ρ o) (hi : ρ[i]? = some (.mt (.dct kvs))) (hy : Sem K ty ρ kd) (hk : ∀ G v, DR K G v kd → v = kV k) (hz : kvs.length < sizeLine) (hn : getA kvs k = none) (p : P.nx (ρ.set i (.mt (.dct (kvs ++ [(k, o)]))))) : SemS K W (sDPut (tVar i) ty tv) ρ P := fun G0 B0 σ G H D S n r b c x =>
  hv _ _ _ _ _ S _ fun v T G1 H1 g1 rv hT => by
    have S1 := S.grow g1
    obtain ⟨w, T0, k1, k2, k3, k4⟩ := S.at hi
    refine ⟨w, k1, hy _ _ _ _ _ S1 _ fun y G3 H3 g3 ry => ?_⟩
    have ey := hk _ _ ry
    subst ey
    cases k2 with
    | @dct a vs _ S0 m1 m2 m3 =>
      have g13 := g1.trans g3
      have hT' : ∀ a ∈ T, H1 a ≠ none := rv.there
      have rv3 : OR K G3 H3 v o T := rv.keep g3.g fun a _ u hu => g3.h a u hu
      have m2' : ORk K G3 H3 vs kvs S0 := m2.keep g13.g fun a _ u hu => g13.h a u hu
      have dj : ∀ b ∈ S0, b ∉ T := fun b hb ht => m2.there b hb (hT b ht).1
      have r' := ORk.snoc (k := k) rv3 m2' dj
      have ga : G3 a = none := g13.m a (k3 a (.head _)).1 (by rw [m1]; simp)
      have na : a ∉ S0 ++ T := fun z => by
        rcases List.mem_append.mp z with z | z
        · exact m3 z
        · rw [(hT a z).1] at m1; cases m1
      refine ⟨a, _, rfl, .inl ⟨vs, k, g13.h _ _ m1, rfl, by rw [m2.length]; exact hz, rfl⟩, n _ σ G3 _ p ?_⟩
      rw [putK_putA, putA_new (m2.getNone hn)]
      refine k4 _ G3 _ (a :: (S0 ++ T)) ⟨g13.g, g3.s.mut ga, fun b u hb hu => ?_, fun b z1 z2 _ => g13.m b z1 z2, fun b hb => ?_⟩ (.dct upd_same (r'.keep (Evl.Ex.refl _) fun b hb u hu => ?_) na)
      · rw [upd_ne (fun z => hb (by rw [z]; exact .head _))]; exact g13.h b u hu
      · rcases List.mem_cons.mp hb with z | z
        · rw [z]; exact ⟨.inl (.head _), ga⟩
        · rcases List.mem_append.mp z with z | z
          · exact ⟨.inl (.tail _ z), g13.m b (k3 b (.tail _ z)).1 (m2.there b z)⟩
          · exact ⟨.inr (hT b z).1, g3.m b (hT b z).2 (hT' b z)⟩
      · rw [upd_ne (fun z => na (by rw [← z]; exact hb))]; exact hu
/-- self.f += n -/
theorem ss_fldaug {a0 : Addr} {f : Str} {os : List (Str × OD)} {m : Int} {k : Int} (hi : ρ[i]? = some (.mt (.me a0 (.ins C os)))) (h : Sem K te ρ (.int k)) (cl : Cls K C) (hn : NoAttr K C f) (hz : os.length < 1000) (hl : os.lookup f = some (.dat (.int m))) (p : P.nx (ρ.set i (.mt (.me a0 (.ins C (putO f (.dat (.int (m + k))) os)))))) : SemS K W (sFldAug K (tVar i) te rAdd f) ρ P := fun G0 B0 σ G H D S n r b ct x => by
  obtain ⟨w, T0, k1, k2, k3, k4⟩ := S.at hi
  cases k2 with
  | me k2 =>
    cases k2 with
    | @ins _ _ dx vs _ S0 m1 m2 m3 =>
      obtain ⟨v, z1, z2⟩ := m2.datAt hl
      cases z2
      refine ⟨.ref a0, k1, a0, C, dx, vs, _, rfl, m1, cl, hn, z1, h _ _ _ _ _ S _ fun y G1 H1 g1 ry => ?_⟩
      cases ry
      have m2' : ORf K G1 H1 vs os S0 := m2.keep g1.g fun a _ u hu => g1.h a u hu
      obtain ⟨S', q1, q2⟩ := ORf.put (f := f) (v := .int (m + k)) (o := .dat (.int (m + k))) (T := []) (.dat (.int _)) m2' (fun a _ z => by cases z)
      have q3 : ∀ a ∈ S', a ∈ S0 := fun a ha => (q2 a ha).resolve_right (by simp)
      have na : a0 ∉ S' := fun z => m3 (q3 _ z)
      have g0 : G1 a0 = none := g1.m a0 (k3 a0 (.head _)).1 (by rw [m1]; simp)
      refine ⟨_, _, rfl, rfl, dx, vs, g1.h _ _ m1, by rw [m2.length]; exact hz, n _ _ _ _ p (k4 _ G1 _ (a0 :: S') ⟨g1.g, g1.s.mut g0, fun a u ha hu => ?_, fun a z1 z2 _ => g1.m a z1 z2, fun a ha => ?_⟩ (.me (.ins upd_same (q1.keep (Evl.Ex.refl _) fun a ha u hu => ?_) na)))⟩
      · rw [upd_ne (fun z => ha (by rw [z]; exact .head _))]; exact g1.h a u hu
      · rcases List.mem_cons.mp ha with z | z
        · rw [z]; exact ⟨.inl (.head _), g0⟩
        · exact ⟨.inl (.tail _ (q3 a z)), g1.m a (k3 a (.tail _ (q3 a z))).1 (m2.there a (q3 a z))⟩
      · rw [upd_ne (fun z => na (by rw [← z]; exact ha))]; exact hu
/-- what is owned within is told to others; it is given a name -/
theorem ss_freezeF {u : TS} (fa : FocA K ρ i o wrap) (h : SemS K W u (ρ.set i (.mt (wrap (.dat (frz o))))) P) : SemS K W u ρ P := fun G0 B0 σ G H D S n r b c x => by
  obtain ⟨v, F⟩ := fa _ _ _ _ _ S
  obtain ⟨G', S1, _⟩ := F.freeze S.gr.s
  exact h _ _ _ _ _ _ S1 n r b c x
def isRef : OD → Bool
  | .dat _ => false
  | .me _ _ => false
  | _ => true
theorem ss_name {u : TS} (fa : FocA K ρ i o wrap) (hr : isRef o = true) (h : ∀ p, SemS K W u (ρ.set i (.mt (wrap (.me p o)))) P) : SemS K W u ρ P := fun G0 B0 σ G H D S n r b c x => by
  obtain ⟨v, T, h1, h2, h3⟩ := fa _ _ _ _ _ S
  have ⟨p, e⟩ : ∃ p, v = .ref p := by
    cases h1 with
    | dat _ => cases hr
    | me _ => cases hr
    | _ => exact ⟨_, rfl⟩
  subst e
  exact h p _ _ _ _ _ _ (h3 _ G H T (Chg.refl S.gr.s fun a ha => (h2 a ha).1) (.me h1)) n r b c x
theorem ss_unname {u : TS} {p : Addr} (fa : FocA K ρ i (.me p o) wrap) (h : SemS K W u (ρ.set i (.mt (wrap o))) P) : SemS K W u ρ P := fun G0 B0 σ G H D S n r b c x => by
  obtain ⟨v, T, h1, h2, h3⟩ := fa _ _ _ _ _ S
  cases h1 with
  | me h1 => exact h _ _ _ _ _ _ (h3 _ G H T (Chg.refl S.gr.s fun a ha => (h2 a ha).1) h1) n r b c x
end
/-! ### promises of what changes what it is handed -/
def spL (K : PySem.W.Frag) (R : List Sl → Out → List Sl → Prop) : Sp := fun vs H Q E => ∃ G B as as' out, Sat K G B as (vs.map some) G H ∧ R as out as' ∧
  ((∃ d, out = .val d ∧ ∀ v G' H', Sat K G B as' (vs.map some) G' H' → DR K G' v d → Q v H') ∨ (∃ C fs, out = .exc C fs ∧ ∀ dd G' H', Sat K G B as' (vs.map some) G' H' → DX K G' dd fs → E (.ref C) dd H'))
def Keeps (ρ as : List Sl) : Prop := ∀ (j : Nat) a o, as[j]? = some (.mt (.me a o)) → ρ[j]? = some (.mt (.me a o))
def PL (as : List Sl) : Out → Post
  | .val d => { nx := fun ρ => d = .non ∧ Keeps ρ as, rm := fun d' ρ => d' = d ∧ Keeps ρ as }
  | .exc C fs => { nx := fun _ => False, ex := fun C' fs' ρ => C' = C ∧ fs' = fs ∧ Keeps ρ as }
  | .mt _ => { nx := fun _ => False }
structure Agree (as as' : List Sl) : Prop where
  l : as'.length = as.length
  d : ∀ (j : Nat) d, as'[j]? = some (.dat d) → as[j]? = some (.dat d)
  m : ∀ (j : Nat) o, as'[j]? = some (.mt o) → ∃ a o1 o2, o = .me a o2 ∧ as[j]? = some (.mt (.me a o1))
theorem agree_first {a : Addr} {o o' : OD} {ds : List Dat} : Agree (.mt (.me a o) :: ds.map .dat) (.mt (.me a o') :: ds.map .dat) where
  l := rfl
  d := fun j d h => by
    cases j with
    | zero => cases h
    | succ j => exact h
  m := fun j o h => by
    cases j with
    | zero => cases h; exact ⟨_, _, _, rfl, rfl⟩
    | succ j =>
      have h : (ds.map Sl.dat)[j]? = some (.mt o) := h
      rw [List.getElem?_map] at h
      cases z : ds[j]? with
      | none => rw [z] at h; cases h
      | some x => rw [z] at h; cases h
section
variable {K : PySem.W.Frag} {G B H G' H' : Hp} {as as' : List Sl} {vs : List V}
theorem sat_startL {N : List Str} (S : Sat K G B as (vs.map some) G H) : Sat K G B (as ++ List.replicate (N.length - as.length) .no) (L2.start N vs) G H := by
  obtain ⟨F, f1, f2⟩ := S.fp
  have hl : vs.length = as.length := by have := S.len; rw [List.length_map] at this; exact this
  have key : ∀ {j : Nat} {s : Sl}, s ≠ .no → (as ++ List.replicate (N.length - as.length) .no)[j]? = some s → as[j]? = some s := fun {j s} hs h => by
    by_cases hj : j < as.length
    · rw [List.getElem?_append_left hj] at h; exact h
    · rw [List.getElem?_append_right (by omega), List.getElem?_replicate] at h
      split at h
      · exact absurd (Option.some.inj h).symm hs
      · cases h
  have val : ∀ {j : Nat} {s : Sl} {v : Option V}, as[j]? = some s → (vs.map some)[j]? = some v → (L2.start N vs)[j]? = some v := fun {j s v} h1 h2 => by
    have hj : j < as.length := (List.getElem?_eq_some_iff.mp h1).1
    unfold L2.start
    rw [List.getElem?_append_left (by rw [List.length_map, hl]; exact hj)]
    exact h2
  refine ⟨S.gr, ?_, fun j d h => ?_, F, fun j o h => ?_, fun j k o1 o2 n h1 h2 => ?_⟩
  · unfold L2.start
    simp [hl]
  · have h1 := key (by simp) h
    obtain ⟨v, k1, k2⟩ := S.dat j d h1
    exact ⟨v, val h1 k1, k2⟩
  · have h1 := key (by simp) h
    obtain ⟨v, k1, k2⟩ := f1 j o h1
    exact ⟨v, val h1 k1, k2⟩
  · exact f2 j k o1 o2 n (key (by simp) h1) (key (by simp) h2)
theorem sat_endL {ρ' : List Sl} {σ' : L2.St} (A : Agree as as') (S : Sat K G B as (vs.map some) G H) (S' : Sat K G B ρ' σ' G' H') (hk : Keeps ρ' as') : Sat K G B as' (vs.map some) G' H' := by
  obtain ⟨F, f1, f2⟩ := S'.fp
  obtain ⟨F0, e1, e2⟩ := S.fp
  have kp : ∀ {j : Nat} {o : OD}, as'[j]? = some (.mt o) → ρ'[j]? = some (.mt o) := fun {j o} h => by
    obtain ⟨a, o1, o2, rfl, _⟩ := A.m j o h
    exact hk j a o2 h
  refine ⟨S'.gr, by rw [S.len, A.l], fun j d h => ?_, F, fun j o h => ?_, fun j k o1 o2 n h1 h2 => f2 j k o1 o2 n (kp h1) (kp h2)⟩
  · obtain ⟨v, k1, k2⟩ := S.dat j d (A.d j d h)
    exact ⟨v, k1, k2.mono S'.gr.g⟩
  · obtain ⟨a, o1, o2, rfl, h0⟩ := A.m j o h
    obtain ⟨v, k1, k2, k3⟩ := f1 j _ (kp h)
    obtain ⟨w, q1, q2, q3⟩ := e1 j _ h0
    have z1 : v = .ref a := by generalize F j = T at k2; cases k2; rfl
    have z2 : w = .ref a := by generalize F0 j = T at q2; cases q2; rfl
    rw [z1] at k2
    rw [z2] at q1
    exact ⟨.ref a, q1, k2, k3⟩
variable {P : Program} {w : World} {mg : Str → Option Value} {base : Heap}
theorem fn_l {x qual : Str} {st : Stmt} {f : Addr} {fd : FuncData} {N ps : List Str} {k : Nat} {R : List Sl → Out → List Sl → Prop} {T : WX → TS} (F : Fun K x qual st f fd) (S : FnScope N ps (defScope st))
    (hlen : ∀ as o as', R as o as' → as.length = ps.length ∧ Agree as as')
    (hp : ∀ (cdv : Value) (A : Around) (outer : List Env) (s : Shared) (H : Hp) (E : XK), Room k (A.deeper (envOfC qual (defScope st) s.heap.objs.size f cdv)) → PSs (cxOf (L2.CX P w) P w K mg base N qual (defScope st) f cdv A outer s H E) (defBody st) (T fun cls d _ H => E cls d H))
    (hs : ∀ W as o as', R as o as' → SemS K W (T W) (as ++ List.replicate (N.length - as.length) .no) (PL as' o)) : FnOk P w K mg base (L2.CX P w) (k + 1) f fd ps (spL K R) := by
  refine F.okX S (fun vs H Q E h => ?_) (fun cdv A outer s H vs Q E hr h => ?_)
  · obtain ⟨G, B, as, as', out, St, hR, _⟩ := h
    have := St.len
    rw [List.length_map, (hlen _ _ _ hR).1] at this
    exact this
  · obtain ⟨G, B, as, as', out, St, hR, h⟩ := h
    have Ag := (hlen _ _ _ hR).2
    rcases h with ⟨d, rfl, q⟩ | ⟨C, fs, rfl, q⟩
    · refine ⟨_, hp cdv A outer s H E hr, hs _ as _ as' hR G B _ G H _ (sat_startL St) (fun ρ' σ' G' H' h S' => ?_) ⟨fun _ _ _ _ h _ _ => h.elim, fun _ _ _ _ _ h _ _ _ => h.elim, fun d' v ρ' σ' G' H' h S' rv => ?_⟩ (fun _ _ _ _ h _ => h.elim) (fun _ _ _ _ h _ => h.elim) (fun _ _ _ _ _ _ _ h _ _ => h.elim)⟩
      · obtain ⟨rfl, hk⟩ := h
        exact q _ _ _ (sat_endL Ag St S' hk) .non
      · obtain ⟨rfl, hk⟩ := h
        exact q _ _ _ (sat_endL Ag St S' hk) rv
    · refine ⟨_, hp cdv A outer s H E hr, hs _ as _ as' hR G B _ G H _ (sat_startL St) (fun ρ' σ' G' H' h S' => h.elim) ⟨fun _ _ _ _ h _ _ => h.elim, fun _ _ _ _ _ h _ _ _ => h.elim, fun _ _ _ _ _ _ h _ _ => h.elim⟩ (fun _ _ _ _ h _ => h.elim) (fun _ _ _ _ h _ => h.elim) (fun C' fs' dd ρ' σ' G' H' h S' hx => ?_)⟩
      obtain ⟨rfl, rfl, hk⟩ := h
      exact q _ _ _ (sat_endL Ag St S' hk) hx
theorem gl_of {x qual : Str} {st : Stmt} {f : Addr} {fd : FuncData} {N ps : List Str} {k : Nat} {R : List Sl → Out → List Sl → Prop} {T : WX → TS} (F : Fun K x qual st f fd) (hm : mg x = some (.ref f)) (hb : Binds K fd ps []) (S : FnScope N ps (defScope st))
    (hlen : ∀ as o as', R as o as' → as.length = ps.length ∧ Agree as as')
    (hp : ∀ (cdv : Value) (A : Around) (outer : List Env) (s : Shared) (H : Hp) (E : XK), Room k (A.deeper (envOfC qual (defScope st) s.heap.objs.size f cdv)) → PSs (cxOf (L2.CX P w) P w K mg base N qual (defScope st) f cdv A outer s H E) (defBody st) (T fun cls d _ H => E cls d H))
    (hs : ∀ W as o as', R as o as' → SemS K W (T W) (as ++ List.replicate (N.length - as.length) .no) (PL as' o)) : GX P w K mg base (k + 1) x ps (spL K R) :=
  ⟨f, fd, fn_l F S hlen hp hs, hm, F.kp, hb⟩
end
/-! ### the callers -/
section
variable {K : PySem.W.Frag} {W : WX} {ρ : List Sl} {te to : TE} {d : Dat} {i : Nat} {o o' : OD} {wrap : OD → OD} {C : Addr} {S : SP} {X : XP} {G0 B0 G H : Hp} {σ : L2.St}
theorem dats_no {ds : List Dat} {j : Nat} {o : OD} : (ds.map Sl.dat)[j]? ≠ some (.mt o) := fun h => by
  rw [List.getElem?_map] at h
  cases z : ds[j]? with
  | none => rw [z] at h; cases h
  | some x => rw [z] at h; cases h
/-- what is lent: one thing, at the place j -/
theorem FocP.lend {pre post : List V} {dp dq : List Dat} {a : Addr} (F : FocP K G0 B0 ρ σ i (.ref a) o wrap G H) (e : Ex G H) (r1 : DRs K G pre dp) (r2 : DRs K G post dq) :
    ∃ B, Sat K G B (dp.map .dat ++ .mt (.me a o) :: dq.map .dat) ((pre ++ .ref a :: post).map some) G H ∧
      ∀ G' H' o', Sat K G B (dp.map .dat ++ .mt (.me a o') :: dq.map .dat) ((pre ++ .ref a :: post).map some) G' H' → Sat K G0 B0 (ρ.set i (.mt (wrap o'))) σ G' H' ∧ Ex G G' := by
  classical
  obtain ⟨T, h1, h2, h3⟩ := F
  have lp := r1.length
  have cs : ∀ {j : Nat} {s : Sl} {o : OD}, (dp.map Sl.dat ++ .mt (.me a o) :: dq.map .dat)[j]? = some s → (∃ d v, s = .dat d ∧ ((pre ++ V.ref a :: post).map some)[j]? = some (some v) ∧ DR K G v d) ∨ (j = dp.length ∧ s = .mt (.me a o)) := fun {j s o} h => by
    by_cases hj : j < dp.length
    · rw [List.getElem?_append_left (by rw [List.length_map]; exact hj), List.getElem?_map] at h
      cases z : dp[j]? with
      | none => rw [z] at h; cases h
      | some x =>
        rw [z] at h
        cases h
        obtain ⟨v, k1, k2⟩ := r1.at z
        refine .inl ⟨x, v, rfl, ?_, k2⟩
        rw [List.getElem?_map, List.getElem?_append_left (by rw [lp]; exact hj), k1]
        rfl
    · by_cases hj2 : j = dp.length
      · subst hj2
        rw [List.getElem?_append_right (by rw [List.length_map]; exact Nat.le_refl _), List.length_map, Nat.sub_self] at h
        cases h
        exact .inr ⟨rfl, rfl⟩
      · rw [List.getElem?_append_right (by rw [List.length_map]; omega), List.length_map] at h
        obtain ⟨m, hm⟩ : ∃ m, j - dp.length = m + 1 := ⟨j - dp.length - 1, by omega⟩
        rw [hm, List.getElem?_cons_succ, List.getElem?_map] at h
        cases z : dq[m]? with
        | none => rw [z] at h; cases h
        | some x =>
          rw [z] at h
          cases h
          obtain ⟨v, k1, k2⟩ := r2.at z
          refine .inl ⟨x, v, rfl, ?_, k2⟩
          rw [List.getElem?_map, List.getElem?_append_right (by omega), lp, hm, List.getElem?_cons_succ, k1]
          rfl
  have av : ((pre ++ V.ref a :: post).map some)[dp.length]? = some (some (V.ref a)) := by
    rw [List.getElem?_map, List.getElem?_append_right (by omega), lp, Nat.sub_self]
    rfl
  refine ⟨fun b => if b ∈ T then none else H b, ⟨⟨Evl.Ex.refl _, e, fun b u hu => ?_, fun b h _ => h⟩, ?_, fun j d h => ?_, fun _ => T, fun j o1 h => ?_, fun j k o1 o2 n g1 g2 => ?_⟩, fun G' H' o' S' => ?_⟩
  · have hu : (if b ∈ T then none else H b) = some u := hu
    split at hu
    · cases hu
    · exact hu
  · simp [lp, r2.length]
  · rcases cs h with ⟨d', v, z, k1, k2⟩ | ⟨_, z⟩
    · cases z; exact ⟨v, k1, k2⟩
    · cases z
  · rcases cs h with ⟨d', v, z, k1, k2⟩ | ⟨rfl, z⟩
    · cases z
    · cases z
      exact ⟨.ref a, av, .me h1, fun b hb => ⟨(h2 b hb).1, if_pos hb⟩⟩
  · rcases cs g1 with ⟨_, _, z, _, _⟩ | ⟨e1, _⟩
    · cases z
    · rcases cs g2 with ⟨_, _, z, _, _⟩ | ⟨e2, _⟩
      · cases z
      · exact absurd (e1.trans e2.symm) n
  · have hj : (dp.map Sl.dat ++ .mt (.me a o') :: dq.map .dat)[dp.length]? = some (.mt (.me a o')) := by
      rw [List.getElem?_append_right (by rw [List.length_map]; exact Nat.le_refl _), List.length_map, Nat.sub_self]
      rfl
    obtain ⟨v, T', k1, k2, k3, _⟩ := S'.at hj
    cases k2 with
    | me k2 =>
      refine ⟨h3 o' G' H' T' ⟨S'.gr.g, S'.gr.s, fun b u hb hu => S'.gr.h b u (by show (if b ∈ T then none else H b) = some u; rw [if_neg hb]; exact hu), fun b z1 z2 z3 => S'.gr.m b z1 (by show (if b ∈ T then none else H b) ≠ none; rw [if_neg z3]; exact z2), fun b hb => ⟨?_, (k3 b hb).1⟩⟩ k2, S'.gr.g⟩
      have z : (if b ∈ T then none else H b) = none := (k3 b hb).2
      by_cases q : b ∈ T
      · exact .inl q
      · rw [if_neg q] at z; exact .inr z
theorem ORf.none {f : Str} : ∀ {vs : List (Str × V)} {os : List (Str × OD)} {S : List Addr}, ORf K G H vs os S → os.lookup f = none → vs.lookup f = none
  | _, _, _, .nil, e => rfl
  | _, _, _, @ORf.cons _ _ _ x v' vs o' os S1 S2 h1 r n, e => by
    rw [List.lookup_cons] at e ⊢
    cases q : (f == x) with
    | true => rw [q] at e; cases e
    | false => rw [q] at e; exact ORf.none r e
theorem FocP.isI {fs : List (Str × OD)} {v : V} {m : Str} (F : FocP K G0 B0 ρ σ i v (.ins C fs) wrap G H) (hl : fs.lookup m = none) : ∃ a dx vs, v = .ref a ∧ H a = some (.ins C dx vs) ∧ vs.lookup m = none := by
  obtain ⟨T, h1, h2, h3⟩ := F
  cases h1 with
  | ins hH r n => exact ⟨_, _, _, rfl, hH, r.none hl⟩
/-- o.m(..), o one's own, which the method changes -/
theorem se_mu {ms : List (Addr × Sp)} {m : Str} {E : L2.St → XK} {ta : TA} {ds : List Dat} {fs : List (Str × OD)} {R : List Sl → Out → List Sl → Prop} (hf : SemF K to ρ i (.ins C fs) wrap) (hl : fs.lookup m = none) (hm : (C, spL K R) ∈ ms) (ha : SemA K ta ρ ds)
    (hr : ∀ a, R (.mt (.me a (.ins C fs)) :: ds.map .dat) (.val d) (.mt (.me a o') :: ds.map .dat)) (hS : S d (ρ.set i (.mt (wrap o')))) : SemE K W (tMu ms m E to ta) ρ S X := fun G0 B0 σ G H St Q q x =>
  hf _ _ _ _ _ St _ fun v G1 H1 g1 F => by
    obtain ⟨a, dx, vs, rfl, hH, hn⟩ := F.isI hl
    refine ⟨a, C, dx, vs, _, rfl, hH, hm, hn, ha _ _ _ _ _ (St.grow g1) _ fun ys G2 H2 g2 ry => ?_⟩
    obtain ⟨B, s1, s2⟩ := (F.grow g2).lend (pre := []) (dp := []) g2.s .nil ry
    exact ⟨G2, B, _, _, _, s1, hr a, .inl ⟨d, rfl, fun v G3 H3 S3 rv => let ⟨z1, z2⟩ := s2 G3 H3 o' S3; q d v _ G3 H3 hS z1 ((g1.trans g2).g.trans z2) rv⟩⟩
theorem se_muX {ms : List (Addr × Sp)} {m : Str} {ta : TA} {ds : List Dat} {fs : List (Str × OD)} {R : List Sl → Out → List Sl → Prop} {D : Addr} {gs : List (Str × Dat)} (hf : SemF K to ρ i (.ins C fs) wrap) (hl : fs.lookup m = none) (hm : (C, spL K R) ∈ ms) (ha : SemA K ta ρ ds)
    (hr : ∀ a, R (.mt (.me a (.ins C fs)) :: ds.map .dat) (.exc D gs) (.mt (.me a o') :: ds.map .dat)) (hX : X D gs (ρ.set i (.mt (wrap o')))) : SemE K W (tMu ms m (WE W) to ta) ρ S X := fun G0 B0 σ G H St Q q x =>
  hf _ _ _ _ _ St _ fun v G1 H1 g1 F => by
    obtain ⟨a, dx, vs, rfl, hH, hn⟩ := F.isI hl
    refine ⟨a, C, dx, vs, _, rfl, hH, hm, hn, ha _ _ _ _ _ (St.grow g1) _ fun ys G2 H2 g2 ry => ?_⟩
    obtain ⟨B, s1, s2⟩ := (F.grow g2).lend (pre := []) (dp := []) g2.s .nil ry
    exact ⟨G2, B, _, _, _, s1, hr a, .inr ⟨D, gs, rfl, fun dd G3 H3 S3 rv => x D gs dd _ G3 H3 hX (s2 G3 H3 o' S3).1 rv⟩⟩
/-- f(x, y, xs): xs, a name, is changed by the def; the things ahead of it are data -/
theorem se_callL {R : List Sl → Out → List Sl → Prop} {E : L2.St → XK} {ta : TA} {dp : List Dat} (hi : ρ[i]? = some (.mt o)) (hro : isRef o = true) (ha : SemA K ta ρ dp)
    (hr : ∀ a, R (dp.map .dat ++ [.mt (.me a o)]) (.val d) (dp.map .dat ++ [.mt (.me a o')])) (hS : S d (ρ.set i (.mt o'))) (app : TA → TE → TA)
    (happ : ∀ σ H Q, ta σ H (fun xs H1 => ∃ v, σ[i]? = some (some v) ∧ Q (xs ++ [v]) H1) → (app ta (tVar i)) σ H Q) : SemE K W (tCallSD (spL K R) [] E (app ta (tVar i))) ρ S X := fun G0 B0 σ G H St Q q x => by
  refine happ _ _ _ (ha _ _ _ _ _ St _ fun ys G1 H1 g1 ry => ?_)
  obtain ⟨v, k1, F⟩ := (St.grow g1).foc hi
  have ⟨p, e⟩ : ∃ p, v = .ref p := by
    obtain ⟨T, h1, _⟩ := F
    cases h1 with
    | dat _ => cases hro
    | me _ => cases hro
    | _ => exact ⟨_, rfl⟩
  subst e
  refine ⟨_, k1, ?_⟩
  obtain ⟨B, s1, s2⟩ := F.lend (post := []) (dq := []) g1.s ry .nil
  refine ⟨G1, B, _, _, _, by rw [List.append_nil]; exact s1, hr p, .inl ⟨d, rfl, fun v G3 H3 S3 rv => ?_⟩⟩
  rw [List.append_nil] at S3
  obtain ⟨z1, z2⟩ := s2 G3 H3 o' S3
  exact q d v _ G3 H3 hS z1 (g1.g.trans z2) rv
end
end DL

set_option Elab.async false
set_option linter.all false
set_option maxRecDepth 100000
set_option maxHeartbeats 1000000
/-! DLq: dicts that are read, and walked (locked while they are) -/
namespace DL
open PySem PySem.Spec PyProof.Rows L2
open Evl (Ex ex_l ex_t fresh_back)
/-- the same but for locks on dicts -/
def Relk (G G' : Hp) : Prop := ∀ a u, G a = some u → G' a = some u ∨ ∃ kvs, (u = .dK kvs ∨ ∃ o, u = .frz o (.dK kvs)) ∧ Rd G' a (.dK kvs)
section
variable {K : PySem.W.Frag} {G G' H H' : Hp}
theorem Relk.to (h : Relk G G') {a : Addr} {u : HO} (e : G a = some u) (n1 : ∀ kvs, u ≠ .dK kvs) (n2 : ∀ o kvs, u ≠ .frz o (.dK kvs)) : G' a = some u := by
  rcases h a u e with z | ⟨kvs, z | ⟨o, z⟩, _⟩
  · exact z
  · exact absurd z (n1 _)
  · exact absurd z (n2 _ _)
theorem Relk.dk (h : Relk G G') {a : Addr} {kvs : List (Key × V)} (e : Rd G a (.dK kvs)) : Rd G' a (.dK kvs) := by
  rcases e with e | ⟨o, e⟩
  · rcases h a _ e with z | ⟨kvs', z | ⟨o, z⟩, q⟩
    · exact .inl z
    · cases z; exact q
    · cases z
  · rcases h a _ e with z | ⟨kvs', z | ⟨o, z⟩, q⟩
    · exact .inr ⟨o, z⟩
    · cases z
    · cases z; exact q
theorem Relk.sqL (h : Relk G G') {a : Addr} {xs : List V} (e : SqL K G a xs) : SqL K G' a xs := by
  rcases e with (e | ⟨o, e⟩) | e
  · exact .inl (.inl (h.to e (fun _ z => by cases z) (fun _ _ z => by cases z)))
  · exact .inl (.inr ⟨o, h.to e (fun _ z => by cases z) (fun _ _ z => by cases z)⟩)
  · exact .inr e
theorem Relk.sqT (h : Relk G G') {a : Addr} {xs : List V} (e : SqT K G a xs) : SqT K G' a xs := by
  rcases e with (e | ⟨o, e⟩) | e
  · exact .inl (.inl (h.to e (fun _ z => by cases z) (fun _ _ z => by cases z)))
  · exact .inl (.inr ⟨o, h.to e (fun _ z => by cases z) (fun _ _ z => by cases z)⟩)
  · exact .inr e
mutual
theorem DR.relk (e : Relk G G') : ∀ {v : V} {d : Dat}, DR K G v d → DR K G' v d
  | _, _, .non => .non
  | _, _, .ty n => .ty n
  | _, _, .cls n => .cls n
  | _, _, .exc0 h => .exc0 (e.to h (fun _ z => by cases z) (fun _ _ z => by cases z))
  | _, _, .exc1 h h2 r => .exc1 (e.to h (fun _ z => by cases z) (fun _ _ z => by cases z)) (e.to h2 (fun _ z => by cases z) (fun _ _ z => by cases z)) (DRf.relk e r)
  | _, _, .bl b => .bl b
  | _, _, .int i => .int i
  | _, _, .txt cs => .txt cs
  | _, _, .lst h r => .lst (e.to h (fun _ z => by cases z) (fun _ _ z => by cases z)) (DRs.relk e r)
  | _, _, .scr h => .scr (e.sqL h)
  | _, _, .tup h r => .tup (e.sqT h) (DRs.relk e r)
  | _, _, .ins h r => .ins (e.to h (fun _ z => by cases z) (fun _ _ z => by cases z)) (DRf.relk e r)
  | _, _, .dct h r => .dct (e.dk h) (DRk.relk e r)
theorem DRs.relk (e : Relk G G') : ∀ {v : List V} {d : List Dat}, DRs K G v d → DRs K G' v d
  | _, _, .nil => .nil
  | _, _, .cons h r => .cons (DR.relk e h) (DRs.relk e r)
theorem DRf.relk (e : Relk G G') : ∀ {v : List (Str × V)} {d : List (Str × Dat)}, DRf K G v d → DRf K G' v d
  | _, _, .nil => .nil
  | _, _, .cons h r => .cons (DR.relk e h) (DRf.relk e r)
theorem DRk.relk (e : Relk G G') : ∀ {v : List (Key × V)} {d : List (Key × Dat)}, DRk K G v d → DRk K G' v d
  | _, _, .nil => .nil
  | _, _, .cons h r => .cons (DR.relk e h) (DRk.relk e r)
end
mutual
theorem OR.relk (e : Relk G G') : ∀ {v : V} {o : OD} {S : List Addr}, OR K G H v o S → (∀ a ∈ S, ∀ u, H a = some u → H' a = some u) → OR K G' H' v o S
  | _, _, _, .dat r, _ => .dat (r.relk e)
  | _, _, _, .pl h r, k => .pl (k _ List.mem_cons_self _ h) (r.relk e)
  | _, _, _, .pd h r, k => .pd (k _ List.mem_cons_self _ h) (r.relk e)
  | _, _, _, .ins h r n, k => .ins (k _ List.mem_cons_self _ h) (ORf.relk e r fun a ha => k a (List.mem_cons_of_mem _ ha)) n
  | _, _, _, .lst h r n, k => .lst (k _ List.mem_cons_self _ h) (ORs.relk e r fun a ha => k a (List.mem_cons_of_mem _ ha)) n
  | _, _, _, .tup h r n, k => .tup (k _ List.mem_cons_self _ h) (ORs.relk e r fun a ha => k a (List.mem_cons_of_mem _ ha)) n
  | _, _, _, .dct h r n, k => .dct (k _ List.mem_cons_self _ h) (ORk.relk e r fun a ha => k a (List.mem_cons_of_mem _ ha)) n
  | _, _, _, .me r, k => .me (OR.relk e r k)
theorem ORs.relk (e : Relk G G') : ∀ {v : List V} {o : List OD} {S : List Addr}, ORs K G H v o S → (∀ a ∈ S, ∀ u, H a = some u → H' a = some u) → ORs K G' H' v o S
  | _, _, _, .nil, _ => .nil
  | _, _, _, .cons h r n, k => .cons (OR.relk e h fun a ha => k a (List.mem_append_left _ ha)) (ORs.relk e r fun a ha => k a (List.mem_append_right _ ha)) n
theorem ORf.relk (e : Relk G G') : ∀ {v : List (Str × V)} {o : List (Str × OD)} {S : List Addr}, ORf K G H v o S → (∀ a ∈ S, ∀ u, H a = some u → H' a = some u) → ORf K G' H' v o S
  | _, _, _, .nil, _ => .nil
  | _, _, _, .cons h r n, k => .cons (OR.relk e h fun a ha => k a (List.mem_append_left _ ha)) (ORf.relk e r fun a ha => k a (List.mem_append_right _ ha)) n
theorem ORk.relk (e : Relk G G') : ∀ {v : List (Key × V)} {o : List (Key × OD)} {S : List Addr}, ORk K G H v o S → (∀ a ∈ S, ∀ u, H a = some u → H' a = some u) → ORk K G' H' v o S
  | _, _, _, .nil, _ => .nil
  | _, _, _, .cons h r n, k => .cons (OR.relk e h fun a ha => k a (List.mem_append_left _ ha)) (ORk.relk e r fun a ha => k a (List.mem_append_right _ ha)) n
end
theorem relk_lock {d : Addr} {kvs : List (Key × V)} {od : Obj} (h : G d = some (.dK kvs)) : Relk G (upd G d (.frz od (.dK kvs))) := fun a u e => by
  by_cases q : a = d
  · subst q
    rw [h] at e
    exact .inr ⟨kvs, .inl (Option.some.inj e).symm, .inr ⟨od, upd_same⟩⟩
  · rw [upd_ne q]; exact .inl e
theorem relk_free {d : Addr} {kvs : List (Key × V)} {od : Obj} (h : G d = some (.frz od (.dK kvs))) : Relk G (upd G d (.dK kvs)) := fun a u e => by
  by_cases q : a = d
  · subst q
    rw [h] at e
    exact .inr ⟨kvs, .inr ⟨od, (Option.some.inj e).symm⟩, .inl upd_same⟩
  · rw [upd_ne q]; exact .inl e
variable {G0 B0 : Hp} {ρ : List Sl} {σ : L2.St} {d : Addr} {kvs : List (Key × V)} {od : Obj}
def lkB (B0 : Hp) (d : Addr) (u : HO) : Hp := fun a => if a = d then (if B0 d = none then none else some u) else B0 a
theorem lkB_ne {u : HO} {a : Addr} (h : a ≠ d) : lkB B0 d u a = B0 a := if_neg h
theorem lkB_none {u : HO} {a : Addr} : lkB B0 d u a = none ↔ B0 a = none := by
  unfold lkB
  by_cases q : a = d
  · subst q
    rw [if_pos rfl]
    by_cases z : B0 a = none
    · rw [if_pos z]; exact ⟨fun _ => z, fun _ => rfl⟩
    · rw [if_neg z]; exact ⟨fun h => (by cases h), fun h => absurd h z⟩
  · rw [if_neg q]
theorem Sat.lock (S : Sat K G0 B0 ρ σ G H) (hd : G d = some (.dK kvs)) : Sat K (upd G d (.frz od (.dK kvs))) (lkB B0 d (.frz od (.dK kvs))) ρ σ (upd G d (.frz od (.dK kvs))) (upd H d (.frz od (.dK kvs))) := by
  obtain ⟨F, f1, f2⟩ := S.fp
  refine ⟨⟨Evl.Ex.refl _, ex_upd2 S.gr.s, fun a u hu => ?_, fun _ h _ => h⟩, S.len, fun i e h => ?_, F, fun i o h => ?_, f2⟩
  · by_cases q : a = d
    · subst q
      unfold lkB at hu
      rw [if_pos rfl] at hu
      split at hu
      · cases hu
      · rw [upd_same]; exact hu
    · rw [lkB_ne q] at hu
      rw [upd_ne q]; exact S.gr.h a u hu
  · obtain ⟨v, k1, k2⟩ := S.dat i e h
    exact ⟨v, k1, k2.relk (relk_lock hd)⟩
  · obtain ⟨v, k1, k2, k3⟩ := f1 i o h
    have ne : ∀ a ∈ F i, a ≠ d := fun a ha z => by rw [z] at ha; rw [(k3 d ha).1] at hd; cases hd
    exact ⟨v, k1, k2.relk (relk_lock hd) fun a ha u hu => by rw [upd_ne (ne a ha)]; exact hu, fun a ha => ⟨by rw [upd_ne (ne a ha)]; exact (k3 a ha).1, lkB_none.mpr (k3 a ha).2⟩⟩
theorem grow_free (S : Sat K G0 B0 ρ σ G H) (hd : G d = some (.dK kvs)) (g : Grow (upd G d (.frz od (.dK kvs))) (lkB B0 d (.frz od (.dK kvs))) G' H') : Grow G0 B0 (upd G' d (.dK kvs)) (upd H' d (.dK kvs)) := by
  refine ⟨fun a u hu => ?_, ex_upd2 g.s, fun a u hu => ?_, fun a h1 h2 => ?_⟩
  · have h1 := S.gr.g a u hu
    by_cases q : a = d
    · subst q
      rw [hd] at h1
      rw [upd_same]; exact h1
    · rw [upd_ne q]
      exact g.g a u (by rw [upd_ne q]; exact h1)
  · by_cases q : a = d
    · subst q
      have h1 := S.gr.h a u hu
      rw [S.gr.s _ _ hd] at h1
      rw [upd_same]; exact h1
    · rw [upd_ne q]
      exact g.h a u (by rw [lkB_ne q]; exact hu)
  · have h3 := S.gr.m a h1 h2
    have q : a ≠ d := fun z => by rw [z, hd] at h3; cases h3
    rw [upd_ne q]
    exact g.m a (by rw [upd_ne q]; exact h3) (fun z => h2 (lkB_none.mp z))
theorem Sat.free {ρ' : List Sl} {σ' : L2.St} (S : Sat K G0 B0 ρ σ G H) (hd : G d = some (.dK kvs)) (S' : Sat K (upd G d (.frz od (.dK kvs))) (lkB B0 d (.frz od (.dK kvs))) ρ' σ' G' H') : Sat K G0 B0 ρ' σ' (upd G' d (.dK kvs)) (upd H' d (.dK kvs)) := by
  obtain ⟨F, f1, f2⟩ := S'.fp
  have hg : G' d = some (.frz od (.dK kvs)) := S'.gr.g d _ upd_same
  refine ⟨grow_free S hd S'.gr, S'.len, fun i e h => ?_, F, fun i o h => ?_, f2⟩
  · obtain ⟨v, k1, k2⟩ := S'.dat i e h
    exact ⟨v, k1, k2.relk (relk_free hg)⟩
  · obtain ⟨v, k1, k2, k3⟩ := f1 i o h
    have ne : ∀ a ∈ F i, a ≠ d := fun a ha z => by rw [z] at ha; rw [(k3 d ha).1] at hg; cases hg
    exact ⟨v, k1, k2.relk (relk_free hg) fun a ha u hu => by rw [upd_ne (ne a ha)]; exact hu, fun a ha => ⟨by rw [upd_ne (ne a ha)]; exact (k3 a ha).1, lkB_none.mp (k3 a ha).2⟩⟩
end
/-! ### loops at one state -/
section
variable {K : PySem.W.Frag} {W : WX} {ρ : List Sl} {u : TS} {P : Post} {G0 B0 G H : Hp} {σ : L2.St} {D : Ends}
theorem for_at {wi : TI} {g : TG} {ds : List Dat} (S : Sat K G0 B0 ρ σ G H) (hi : ∀ R : It → Hp → Prop, (∀ J G' H', Grow G H G' H' → Walks K J G' ds → R J H') → wi σ H R) (I : Nat → List Sl → Prop) (h0 : I 0 ρ)
    (hs : ∀ i d ρ1, ds[i]? = some d → I i ρ1 → ∃ ρ2, SemG K g d ρ1 ρ2 ∧ SemS K W u ρ2 { P with nx := I (i + 1), ct := I (i + 1), bk := P.nx }) (hd : ∀ ρ1, I ds.length ρ1 → P.nx ρ1)
    (n : ∀ ρ' σ' G' H', P.nx ρ' → Sat K G0 B0 ρ' σ' G' H' → D.nx σ' H') (r : (∀ d v G' H', P.rt d → Grow G0 B0 G' H' → DR K G' v d → D.rt v H') ∧ (∀ o v T G' H', P.rn o → Grow G0 B0 G' H' → OR K G' H' v o T → (∀ a ∈ T, B0 a = none ∧ G' a = none) → D.rt v H') ∧ (∀ d v ρ' σ' G' H', P.rm d ρ' → Sat K G0 B0 ρ' σ' G' H' → DR K G' v d → D.rt v H'))
    (x : ∀ C fs dd ρ' σ' G' H', P.ex C fs ρ' → Sat K G0 B0 ρ' σ' G' H' → DX K G' dd fs → W (.ref C) dd σ' H') : tFor wi g u D σ H :=
  hi _ fun J G1 H1 g1 Wk => by
    refine ⟨fun i m σ' H' => m = ds.length - i ∧ i ≤ ds.length ∧ ∃ ρ1 G', Ex G1 G' ∧ I i ρ1 ∧ Sat K G0 B0 ρ1 σ' G' H', ⟨ds.length, by omega, Nat.zero_le _, ρ, G1, Evl.Ex.refl _, h0, S.grow g1⟩, ?_⟩
    rintro i m σ' H' ⟨rfl, hi', ρ1, G', e1, hI, S'⟩
    by_cases hlt : i < ds.length
    · have hd' : ds[i]? = some ds[i] := List.getElem?_eq_getElem hlt
      obtain ⟨ρ2, hg, hb⟩ := hs i ds[i] ρ1 hd' hI
      refine .inr ⟨Wk.go i G' H' e1 S'.gr.s hlt, fun σ2 H2 => i + 1 ≤ ds.length ∧ ∃ ρ1 G', Ex G1 G' ∧ I (i + 1) ρ1 ∧ Sat K G0 B0 ρ1 σ2 G' H2, fun σ2 H2 p => ⟨ds.length - (i + 1), by omega, rfl, p⟩, fun x0 H2 hy => ?_⟩
      obtain ⟨G3, g3, rx⟩ := Wk.yld i G' H' x0 H2 ds[i] e1 S'.gr.s hd' hy
      refine hg _ _ _ _ _ _ (S'.grow g3) rx _ fun σ3 S3 => ?_
      have S4 : Sat K G3 B0 ρ2 σ3 G3 H2 := ⟨⟨Evl.Ex.refl _, S3.gr.s, S3.gr.h, fun a h _ => h⟩, S3.len, S3.dat, S3.fp⟩
      have back : ∀ {ρ' σ' G' H'}, Sat K G3 B0 ρ' σ' G' H' → Sat K G0 B0 ρ' σ' G' H' := fun {ρ' σ' G' H'} S5 =>
        ⟨⟨S3.gr.g.trans S5.gr.g, S5.gr.s, S5.gr.h, fun a h1 h2 => S5.gr.m a (S3.gr.m a h1 h2) h2⟩, S5.len, S5.dat, S5.fp⟩
      refine hb _ _ _ _ _ _ S4 (fun ρ' σ' G' H' p S5 => ⟨hlt, ρ', G', (e1.trans g3.g).trans S5.gr.g, p, back S5⟩) ⟨fun d v G' H' p g5 rv => r.1 d v G' H' p ⟨S3.gr.g.trans g5.g, g5.s, g5.h, fun a h1 h2 => g5.m a (S3.gr.m a h1 h2) h2⟩ rv, fun o v T G' H' p1 g5 k1 k2 => r.2.1 o v T G' H' p1 ⟨S3.gr.g.trans g5.g, g5.s, g5.h, fun a h1 h2 => g5.m a (S3.gr.m a h1 h2) h2⟩ k1 k2, fun d v ρ' σ' G' H' p1 S5 rv => r.2.2 d v ρ' σ' G' H' p1 (back S5) rv⟩
        (fun ρ' σ' G' H' p S5 => n ρ' σ' G' H' p (back S5)) (fun ρ' σ' G' H' p S5 => ⟨hlt, ρ', G', (e1.trans g3.g).trans S5.gr.g, p, back S5⟩)
        (fun C fs dd ρ' σ' G' H' p S5 hx => x C fs dd ρ' σ' G' H' p (back S5) hx)
    · have ei : i = ds.length := by omega
      subst ei
      exact .inl ⟨Wk.stop _ G' H' e1 S'.gr.s (Nat.le_refl _), n _ _ _ _ (hd _ hI) S'⟩
/-- where a datum is found, whatever is locked -/
def Pth (K : PySem.W.Frag) (t : TE) (ρ : List Sl) (d : Dat) : Prop := ∀ G0 B0 σ G H, Sat K G0 B0 ρ σ G H → ∃ v, DR K G v d ∧ ∀ H' : Hp, (∀ a u, H a = some u → (∀ kvs, u ≠ .dK kvs) → H' a = some u) → ∀ Q : VK, Q v H' → t σ H' Q
theorem pth_var {i : Nat} {d : Dat} (h : ρ[i]? = some (.dat d)) : Pth K (tVar i) ρ d := fun G0 B0 σ G H S => by
  obtain ⟨v, h1, h2⟩ := S.dat i d h
  exact ⟨v, h2, fun H' _ Q q => ⟨v, h1, q⟩⟩
theorem pth_at {te : TE} {C : Addr} {gs : List (Str × Dat)} {d : Dat} {n : Str} (h : Pth K te ρ (.ins C gs)) (c : Cls K C) (hn : NoAttr K C n) (hl : gs.lookup n = some d) : Pth K (tAt K n te) ρ d := fun G0 B0 σ G H S => by
  obtain ⟨v, h1, h2⟩ := h _ _ _ _ _ S
  cases h1 with
  | ins hG r =>
    obtain ⟨w, k1, k2⟩ := r.lookup hl
    exact ⟨w, k2, fun H' hk Q q => h2 H' hk _ (.inl ⟨_, _, _, _, w, rfl, hk _ _ (S.gr.s _ _ hG) (fun _ z => by cases z), c, hn, k1, q⟩)⟩
theorem pth_fldM {i : Nat} {a0 C : Addr} {f : Str} {os : List (Str × OD)} {d : Dat} (hi : ρ[i]? = some (.mt (.me a0 (.ins C os)))) (cl : Cls K C) (hn : NoAttr K C f) (hl : os.lookup f = some (.dat d)) : Pth K (tAt K f (tVar i)) ρ d := fun G0 B0 σ G H S => by
  obtain ⟨w0, T0, k1, k2, k3, k4⟩ := S.at hi
  cases k2 with
  | me k2 =>
    cases k2 with
    | ins m1 m2 m3 =>
      obtain ⟨v, z1, z2⟩ := m2.datAt hl
      exact ⟨v, z2, fun H' hk Q q => ⟨_, k1, .inl ⟨_, _, _, _, v, rfl, hk _ _ m1 (fun _ z => by cases z), cl, hn, z1, q⟩⟩⟩
def kD : Key → Dat
  | .inl i => .int i
  | .inr x => .txt x.cps.toList
theorem DR.key (k : Key) : DR K G (kV k) (kD k) := by
  cases k with
  | inl i => exact .int i
  | inr x => exact .ofStr x
theorem DRk.getAt : ∀ {vs : List (Key × V)} {ds : List (Key × Dat)} {i : Nat} {k : Key} {v : V}, DRk K G vs ds → vs[i]? = some (k, v) → ∃ d, ds[i]? = some (k, d) ∧ DR K G v d
  | _, _, _, _, _, .nil, e => by simp at e
  | _, _, 0, k, v, .cons h r, e => by simp at e; obtain ⟨rfl, rfl⟩ := e; exact ⟨_, rfl, h⟩
  | _, _, i + 1, k, v, .cons h r, e => by
    obtain ⟨d, h1, h2⟩ := DRk.getAt (i := i) r (by simpa using e)
    exact ⟨d, by simpa using h1, h2⟩
theorem walks_keys {d : Addr} {od : Obj} {kvs : List (Key × V)} {es : List (Key × Dat)} (h : G d = some (.frz od (.dK kvs))) (r : DRk K G kvs es) : Walks K (Itk d od kvs) G (es.map fun e => kD e.1) where
  go := fun i G' H e1 e2 hi => ⟨e2 _ _ (e1 _ _ h), by rw [r.length]; rw [List.length_map] at hi; exact hi⟩
  yld := fun i G' H x H' dd e1 e2 hd y => by
    obtain ⟨rfl, k, v, z, rfl⟩ := y
    obtain ⟨e, z1, z2⟩ := r.getAt z
    rw [List.getElem?_map, z1] at hd
    cases hd
    exact ⟨G', Grow.refl e2, DR.key k⟩
  stop := fun i G' H e1 e2 hi => ⟨e2 _ _ (e1 _ _ h), by rw [r.length]; rw [List.length_map] at hi; exact hi⟩
theorem walks_vals {d : Addr} {od : Obj} {kvs : List (Key × V)} {es : List (Key × Dat)} (h : G d = some (.frz od (.dK kvs))) (r : DRk K G kvs es) : Walks K (Itd d od kvs) G (es.map fun e => e.2) where
  go := fun i G' H e1 e2 hi => ⟨e2 _ _ (e1 _ _ h), by rw [r.length]; rw [List.length_map] at hi; exact hi⟩
  yld := fun i G' H x H' dd e1 e2 hd y => by
    obtain ⟨rfl, k, z⟩ := y
    obtain ⟨e, z1, z2⟩ := r.getAt z
    rw [List.getElem?_map, z1] at hd
    cases hd
    exact ⟨G', Grow.refl e2, z2.mono e1⟩
  stop := fun i G' H e1 e2 hi => ⟨e2 _ _ (e1 _ _ h), by rw [r.length]; rw [List.length_map] at hi; exact hi⟩
theorem walks_items {d : Addr} {od : Obj} {kvs : List (Key × V)} {es : List (Key × Dat)} (h : G d = some (.frz od (.dK kvs))) (r : DRk K G kvs es) : Walks K (Iti d od kvs) G (es.map fun e => .tup [kD e.1, e.2]) where
  go := fun i G' H e1 e2 hi => ⟨e2 _ _ (e1 _ _ h), by rw [r.length]; rw [List.length_map] at hi; exact hi⟩
  yld := fun i G' H x H' dd e1 e2 hd y => by
    obtain ⟨T, k, v, z, rfl, hT, rfl⟩ := y
    obtain ⟨e, z1, z2⟩ := r.getAt z
    rw [List.getElem?_map, z1] at hd
    cases hd
    have gn := Grow.new (o := .tup [kV k, v]) e2 hT
    exact ⟨_, gn, .tup (.inl (.inl upd_same)) (.cons (DR.key k) (.cons ((z2.mono e1).mono gn.g) .nil))⟩
  stop := fun i G' H e1 e2 hi => ⟨e2 _ _ (e1 _ _ h), by rw [r.length]; rw [List.length_map] at hi; exact hi⟩
def tLk (t : TS) : TS := fun D σ H => tLock t D σ H ∨ t D σ H
theorem ps_lk {X : Cx} {st : Stmt} {t : TS} (h : PS X st t) : PS X st (tLk t) := ⟨fun pins s σ H D I hw => by
  rcases hw with hw | hw
  · exact (ps_lock h).run pins s σ H D I hw
  · exact h.run pins s σ H D I hw⟩
/-- a loop over a dict: what it walks by wi, of the locked dict -/
theorem ss_forX {td : TE} {wi : TI} {g : TG} {es : List (Key × Dat)} {ds : List Dat} (hp : Pth K td ρ (.dct es)) (mk : Addr → Obj → List (Key × V) → It)
    (hw : ∀ σ (H : Hp) (R : It → Hp → Prop) d od kvs, H d = some (.frz od (.dK kvs)) → (∀ Q : VK, Q (.ref d) H → td σ H Q) → R (mk d od kvs) H → wi σ H R)
    (hk : ∀ (G : Hp) d od kvs, G d = some (.frz od (.dK kvs)) → DRk K G kvs es → Walks K (mk d od kvs) G ds)
    (I : Nat → List Sl → Prop) (h0 : I 0 ρ)
    (hs : ∀ i d ρ1, ds[i]? = some d → I i ρ1 → ∃ ρ2, SemG K g d ρ1 ρ2 ∧ SemS K W u ρ2 { P with nx := I (i + 1), ct := I (i + 1), bk := P.nx, ex := fun _ _ _ => False }) (hd : ∀ ρ1, I ds.length ρ1 → P.nx ρ1) : SemS K W (tLk (tFor wi g u)) ρ P := fun G0 B0 σ G H D S n r b c x => by
  obtain ⟨v, h1, h2⟩ := hp _ _ _ _ _ S
  cases h1 with
  | @dct d kvs _ hG rk =>
    rcases hG with hG | ⟨od, hG⟩
    · refine .inl ⟨d, .dK kvs, S.gr.s _ _ hG, trivial, fun od => ?_⟩
      have S1 := S.lock (od := od) hG
      have g1 : (upd G d (.frz od (.dK kvs))) d = some (.frz od (.dK kvs)) := upd_same
      refine for_at (P := { P with ex := fun _ _ _ => False }) S1 (fun R q => hw σ _ R d od kvs upd_same (fun Q hq => h2 _ (fun a u hu hn => ?_) Q hq) (q _ _ _ (Grow.refl S1.gr.s) (hk _ d od kvs g1 (rk.relk (relk_lock hG))))) I h0 hs hd (fun ρ' σ' G' H' p S' => ⟨S'.gr.s _ _ (S'.gr.g _ _ upd_same), n _ _ _ _ p (S.free hG S')⟩)
        ⟨fun e v G' H' p g rv => ⟨g.s _ _ (g.g _ _ upd_same), r.1 _ _ _ _ p (grow_free S hG g) (rv.relk (relk_free (g.g _ _ upd_same)))⟩, fun o v T G' H' p g ro hT => ⟨g.s _ _ (g.g _ _ upd_same), ?_⟩, fun e v ρ' σ' G' H' p S' rv => ⟨S'.gr.s _ _ (S'.gr.g _ _ upd_same), r.2.2 _ _ _ _ _ _ p (S.free hG S') (rv.relk (relk_free (S'.gr.g _ _ upd_same)))⟩⟩ (fun _ _ _ _ _ _ _ z _ _ => z.elim)
      · by_cases q : a = d
        · subst q
          rw [S.gr.s _ _ hG] at hu
          exact absurd (Option.some.inj hu).symm (hn _)
        · rw [upd_ne q]; exact hu
      · have gd := g.g _ _ (upd_same (H := G) (a := d) (o := .frz od (.dK kvs)))
        have ne : ∀ a ∈ T, a ≠ d := fun a ha z => by rw [z] at ha; rw [(hT d ha).2] at gd; cases gd
        exact r.2.1 _ _ _ _ _ p (grow_free S hG g) (ro.relk (relk_free gd) fun a ha u hu => by rw [upd_ne (ne a ha)]; exact hu) fun a ha => ⟨lkB_none.mp (hT a ha).1, by rw [upd_ne (ne a ha)]; exact (hT a ha).2⟩
    · refine .inr (for_at (P := { P with ex := fun _ _ _ => False }) S (fun R q => hw σ _ R d od kvs (S.gr.s _ _ hG) (fun Q hq => h2 H (fun a u hu _ => hu) Q hq) (q _ _ _ (Grow.refl S.gr.s) (hk _ d od kvs hG rk))) I h0 hs hd n r (fun _ _ _ _ _ _ _ z _ _ => z.elim))
theorem ss_forK {td : TE} {g : TG} {es : List (Key × Dat)} (hp : Pth K td ρ (.dct es)) (I : Nat → List Sl → Prop) (h0 : I 0 ρ)
    (hs : ∀ i d ρ1, (es.map fun e => kD e.1)[i]? = some d → I i ρ1 → ∃ ρ2, SemG K g d ρ1 ρ2 ∧ SemS K W u ρ2 { P with nx := I (i + 1), ct := I (i + 1), bk := P.nx, ex := fun _ _ _ => False }) (hd : ∀ ρ1, I (es.map fun e => kD e.1).length ρ1 → P.nx ρ1) : SemS K W (tLk (tFor (iKeys td) g u)) ρ P :=
  ss_forX hp Itk (fun σ H R d od kvs h1 h2 h3 => h2 _ ⟨d, od, rfl, .inl ⟨kvs, h1, h3⟩⟩) (fun G d od kvs h r => walks_keys h r) I h0 hs hd
theorem ss_forV {td : TE} {g : TG} {es : List (Key × Dat)} (hp : Pth K td ρ (.dct es)) (I : Nat → List Sl → Prop) (h0 : I 0 ρ)
    (hs : ∀ i d ρ1, (es.map fun e => e.2)[i]? = some d → I i ρ1 → ∃ ρ2, SemG K g d ρ1 ρ2 ∧ SemS K W u ρ2 { P with nx := I (i + 1), ct := I (i + 1), bk := P.nx, ex := fun _ _ _ => False }) (hd : ∀ ρ1, I (es.map fun e => e.2).length ρ1 → P.nx ρ1) : SemS K W (tLk (tFor (iVals td) g u)) ρ P :=
  ss_forX hp Itd (fun σ H R d od kvs h1 h2 h3 => h2 _ ⟨d, od, kvs, rfl, h1, h3⟩) (fun G d od kvs h r => walks_vals h r) I h0 hs hd
theorem ss_forIt {td : TE} {g : TG} {es : List (Key × Dat)} (hp : Pth K td ρ (.dct es)) (I : Nat → List Sl → Prop) (h0 : I 0 ρ)
    (hs : ∀ i d ρ1, (es.map fun e => Dat.tup [kD e.1, e.2])[i]? = some d → I i ρ1 → ∃ ρ2, SemG K g d ρ1 ρ2 ∧ SemS K W u ρ2 { P with nx := I (i + 1), ct := I (i + 1), bk := P.nx, ex := fun _ _ _ => False }) (hd : ∀ ρ1, I (es.map fun e => Dat.tup [kD e.1, e.2]).length ρ1 → P.nx ρ1) : SemS K W (tLk (tFor (iItems td) g u)) ρ P :=
  ss_forX hp Iti (fun σ H R d od kvs h1 h2 h3 => h2 _ ⟨d, od, kvs, rfl, h1, h3⟩) (fun G d od kvs h r => walks_items h r) I h0 hs hd
end
end DL

set_option Elab.async false
set_option linter.all false
set_option maxRecDepth 100000
set_option maxHeartbeats 1000000
/-! DLr: dicts that are read, made and merged; list.pop; new dicts that are walked -/
namespace DL
open PySem PySem.Spec PyProof.Rows L2
open Evl (Ex ex_l ex_t fresh_back)
/-! ### dict.update -/
def rDUpd : V → List V → Hp → VK → Prop := fun x xs H Q => ∃ (a b : Addr) (kvs more : List (Key × V)), x = .ref a ∧ xs = [.ref b] ∧ a ≠ b ∧ H a = some (.dK kvs) ∧ Rd H b (.dK more) ∧ kvs.length + more.length ≤ sizeLine ∧ Q .non (upd H a (.dK (mergeK kvs more)))
theorem mt_dupd {X : Cx} : MtR X "dict.update" rDUpd := by
  intro pins s σ H x xs v us Q I rx rxs h
  obtain ⟨a, b, kvs, more, rfl, rfl, hne, ha, hb, hz, q⟩ := h
  cases rx
  obtain ⟨u, rfl, ru⟩ := rxs.one
  cases ru
  obtain ⟨z, hd, vs, rel, dd⟩ := dk_of I.hok ha
  obtain ⟨z2, hd2, ws, rel2, dd2⟩ := dk_rd I.hok hb
  refine call_meetsIn PySem.F.slot_dict_update dd.typeIs PySem.F.entry_dict_update (PySem.F.args_dict_update_2 _ _) (meets_dict_update (mixKind X.prog X.w) a b hne hd2) ⟨vs, ws, dd, dd2, by rw [← rel.length, ← rel2.length]; exact hz, fun h' dd' _ hs => ?_⟩
  have he : ∃ q, h'.get? a = some q := let ⟨q, _, _, hq, _⟩ := dd'; ⟨q, hq⟩
  exact ⟨.non, _, d_write (t' := s.toks) I (by rw [ha]; exact True.intro) hs he (dk_new (Nat.le_trans (length_mergeK more kvs) hz) hd (rel2.merge rel) dd'), rfl, q⟩
def mergeA {κ α : Type} [DecidableEq κ] (kvs more : List (κ × α)) : List (κ × α) := more.foldl (fun acc kv => putA acc kv.1 kv.2) kvs
section
variable {K : PySem.W.Frag} {W : WX} {ρ : List Sl} {t ta tb tc te to td ty tv : TE} {a b c d : Dat} {P : Post} {i : Nat} {o o2 : OD} {wrap : OD → OD} {S S' : SP} {X X' : XP} {G : Hp}
theorem mergeK_mergeA : ∀ (more kvs : List (Key × V)), mergeK kvs more = mergeA kvs more
  | [], _ => rfl
  | p :: r, kvs => by
    show mergeK (putK kvs p.1 p.2) r = mergeA (putA kvs p.1 p.2) r
    rw [putK_putA]
    exact mergeK_mergeA r _
theorem DRk.merge : ∀ {ws : List (Key × V)} {es : List (Key × Dat)} {vs : List (Key × V)} {ds : List (Key × Dat)}, DRk K G ws es → DRk K G vs ds → DRk K G (mergeA vs ws) (mergeA ds es)
  | _, _, _, _, .nil, r => r
  | _, _, _, _, @DRk.cons _ _ x _ _ _ _ h r, q => by
    have z := DRk.merge r (q.put (k := x) h)
    exact z
/-- d.update(e) -/
theorem ss_dupd {kvs es : List (Key × Dat)} (hf : SemF K to ρ i (.pd kvs) wrap) (h : Sem K te ρ (.dct es)) (hz : kvs.length + es.length ≤ sizeLine) (p : P.nx (ρ.set i (.mt (wrap (.pd (mergeA kvs es)))))) : SemS K W (tDrop (tBM K "dict" rDUpd to (tCons te tNil))) ρ P := fun G0 B0 σ G H D S n r b c x =>
  hf _ _ _ _ _ S _ fun v G1 H1 g1 F => by
    obtain ⟨p0, vs0, e0, k0, _⟩ := F.isD
    subst e0
    refine ⟨.inr (.inr (.inl ⟨rfl, .inl ⟨_, k0⟩⟩)), h _ _ _ _ _ (S.grow g1) _ fun y G2 H2 g2 ry => ?_⟩
    have F2 := F.grow g2
    obtain ⟨p1, vs, e1, k1, r1⟩ := F2.isD
    cases e1
    have hg : G2 p0 = none := by
      obtain ⟨T, h1, h2, _⟩ := F2
      cases h1 with
      | pd _ _ => exact (h2 _ (.head _)).1
    cases ry with
    | @dct b0 ws _ hw rw' =>
      have hne : p0 ≠ b0 := fun z => by
        subst z
        rcases hw with hw | ⟨od, hw⟩ <;> (rw [hg] at hw; cases hw)
      refine ⟨p0, b0, vs, ws, rfl, rfl, hne, k1, hw.imp (g2.s _ _) fun ⟨od, z⟩ => ⟨od, g2.s _ _ z⟩, by rw [r1.length, rw'.length]; exact hz, n _ σ G2 _ p ?_⟩
      rw [mergeK_mergeA]
      exact F2.putD g2.s (rw'.merge r1)
/-! ### reading -/
theorem DGet.of {H : Hp} {p : Addr} {kvs : List (Key × V)} {k : Key} (h : Rd H p (.dK kvs)) : DGet H p (kV k) (getA kvs k) := .inl ⟨kvs, k, h, rfl, (valV_getA k kvs).symm⟩
/-- a datum that is a key -/
def keyOf : Dat → Option Key
  | .int i => some (.inl i)
  | .txt cs => some (.inr (strL cs))
  | _ => none
theorem DR.isKey {k : Key} {kd : Dat} {v : V} (h : keyOf kd = some k) (r : DR K G v kd) : v = kV k := by
  cases r with
  | int i => cases h; rfl
  | txt cs => cases h; rfl
  | _ => cases h
theorem rd_ex {G H : Hp} {p : Addr} {u : HO} (e : Ex G H) (h : Rd G p u) : Rd H p u := h.imp (e _ _) fun ⟨o, z⟩ => ⟨o, e _ _ z⟩
theorem s_dget {es : List (Key × Dat)} {k : Key} {kd : Dat} (h : Sem K td ρ (.dct es)) (hy : Sem K ty ρ kd) (hk : keyOf kd = some k) (hl : getA es k = some d) : Sem K (tDGet td ty) ρ d := fun G0 B0 σ G H S Q q =>
  h _ _ _ _ _ S _ fun x G1 H1 g1 rx => hy _ _ _ _ _ (S.grow g1) _ fun y G2 H2 g2 ry => by
    cases rx with
    | dct hH r =>
      obtain ⟨v, z1, z2⟩ := r.get hl
      have ey := ry.isKey hk
      subst ey
      exact ⟨_, v, rfl, z1 ▸ DGet.of (rd_ex (g1.s.trans g2.h) hH), q v G2 H2 (g1.trans g2) (z2.mono g2.g)⟩
theorem s_din {es : List (Key × Dat)} {k : Key} {kd : Dat} (hy : Sem K ty ρ kd) (h : Sem K td ρ (.dct es)) (hk : keyOf kd = some k) : Sem K (tDIn ty td) ρ (.bl (getA es k).isSome) := fun G0 B0 σ G H S Q q =>
  hy _ _ _ _ _ S _ fun y G1 H1 g1 ry => h _ _ _ _ _ (S.grow g1) _ fun x G2 H2 g2 rx => by
    cases rx with
    | dct hH r =>
      have ey := ry.isKey hk
      subst ey
      refine ⟨_, _, rfl, DGet.of (rd_ex g2.s hH), ?_⟩
      cases z : getA es k with
      | none => rw [r.getNone z]; rw [z] at q; exact q _ G2 H2 (g1.trans g2) (.bl _)
      | some e => obtain ⟨v, z1, _⟩ := r.get z; rw [z1]; rw [z] at q; exact q _ G2 H2 (g1.trans g2) (.bl _)
theorem s_dnotin {es : List (Key × Dat)} {k : Key} {kd : Dat} (hy : Sem K ty ρ kd) (h : Sem K td ρ (.dct es)) (hk : keyOf kd = some k) : Sem K (tDNotIn ty td) ρ (.bl (!(getA es k).isSome)) := fun G0 B0 σ G H S Q q =>
  hy _ _ _ _ _ S _ fun y G1 H1 g1 ry => h _ _ _ _ _ (S.grow g1) _ fun x G2 H2 g2 rx => by
    cases rx with
    | dct hH r =>
      have ey := ry.isKey hk
      subst ey
      refine ⟨_, _, rfl, DGet.of (rd_ex g2.s hH), ?_⟩
      cases z : getA es k with
      | none => rw [r.getNone z]; rw [z] at q; exact q _ G2 H2 (g1.trans g2) (.bl _)
      | some e => obtain ⟨v, z1, _⟩ := r.get z; rw [z1]; rw [z] at q; exact q _ G2 H2 (g1.trans g2) (.bl _)
/-- d.get(k), d.get(k, x) -/
theorem s_dget1 {es : List (Key × Dat)} {k : Key} {kd : Dat} (h : Sem K td ρ (.dct es)) (hy : Sem K ty ρ kd) (hk : keyOf kd = some k) : Sem K (tDGet1 td ty) ρ ((getA es k).getD .non) := fun G0 B0 σ G H S Q q =>
  h _ _ _ _ _ S _ fun x G1 H1 g1 rx => by
    cases rx with
    | dct hH r =>
      refine ⟨_, rfl, .inl ⟨_, rd_ex g1.s hH⟩, hy _ _ _ _ _ (S.grow g1) _ fun y G2 H2 g2 ry => ?_⟩
      have ey := ry.isKey hk
      subst ey
      refine ⟨_, DGet.of (rd_ex (g1.s.trans g2.h) hH), ?_⟩
      cases z : getA es k with
      | none => rw [r.getNone z]; rw [z] at q; exact q _ G2 H2 (g1.trans g2) .non
      | some e => obtain ⟨v, z1, z2⟩ := r.get z; rw [z1]; rw [z] at q; exact q _ G2 H2 (g1.trans g2) (z2.mono g2.g)
theorem s_dget2 {tx : TE} {es : List (Key × Dat)} {k : Key} {kd e : Dat} (h : Sem K td ρ (.dct es)) (hy : Sem K ty ρ kd) (hk : keyOf kd = some k) (hx : Sem K tx ρ e) : Sem K (tDGet2 td ty tx) ρ ((getA es k).getD e) := fun G0 B0 σ G H S Q q =>
  h _ _ _ _ _ S _ fun x G1 H1 g1 rx => by
    cases rx with
    | dct hH r =>
      refine ⟨_, rfl, .inl ⟨_, rd_ex g1.s hH⟩, hy _ _ _ _ _ (S.grow g1) _ fun y G2 H2 g2 ry => hx _ _ _ _ _ ((S.grow g1).grow g2) _ fun w G3 H3 g3 rw' => ?_⟩
      have ey := ry.isKey hk
      subst ey
      refine ⟨_, DGet.of (rd_ex ((g1.s.trans g2.h).trans g3.h) hH), ?_⟩
      cases z : getA es k with
      | none => rw [r.getNone z]; rw [z] at q; exact q _ G3 H3 ((g1.trans g2).trans g3) rw'
      | some e => obtain ⟨v, z1, z2⟩ := r.get z; rw [z1]; rw [z] at q; exact q _ G3 H3 ((g1.trans g2).trans g3) (z2.mono (g2.trans g3).g)
/-! ### new dicts -/
theorem sm_dnew : SemM K tDNewK ρ (.pd []) := fun G0 B0 σ G H S Q q p hp => q _ [p] _ _ (Grow.newM S.gr.s hp) (.pd upd_same .nil) fun a ha => by
  rcases List.mem_cons.mp ha with z | z
  · rw [z]; exact ⟨hp, fresh_back S.gr.s hp⟩
  · cases z
theorem sm_dnewO : SemM K tDNewK ρ (.dct []) := fun G0 B0 σ G H S Q q p hp => q _ [p] _ _ (Grow.newM S.gr.s hp) (.dct upd_same .nil (by simp)) fun a ha => by
  rcases List.mem_cons.mp ha with z | z
  · rw [z]; exact ⟨hp, fresh_back S.gr.s hp⟩
  · cases z
def SemPs (K : PySem.W.Frag) (trs : List (TE × TE)) (ρ : List Sl) (kds : List (Key × Dat)) : Prop :=
  ∀ G0 B0 σ G H, Sat K G0 B0 ρ σ G H → ∀ Q : List (V × V) → Hp → Prop, (∀ (kvs : List (Key × V)) G' H', Grow G H G' H' → DRk K G' kvs kds → Q (kvs.map fun kv => (kV kv.1, kv.2)) H') → tPairs trs σ H Q
theorem sps_nil : SemPs K [] ρ [] := fun G0 B0 σ G H S Q q => q [] G H (Grow.refl S.gr.s) .nil
theorem sps_cons {trs : List (TE × TE)} {kds : List (Key × Dat)} {k : Key} {kd : Dat} (hk : keyOf kd = some k) (h1 : Sem K ta ρ kd) (h2 : Sem K tb ρ d) (h3 : SemPs K trs ρ kds) : SemPs K ((ta, tb) :: trs) ρ ((k, d) :: kds) := fun G0 B0 σ G H S Q q =>
  h1 _ _ _ _ _ S _ fun x G1 H1 g1 rx => h2 _ _ _ _ _ (S.grow g1) _ fun y G2 H2 g2 ry => h3 _ _ _ _ _ ((S.grow g1).grow g2) _ fun kvs G3 H3 g3 rk => by
    have ex := rx.isKey hk
    subst ex
    exact q ((k, y) :: kvs) G3 H3 ((g1.trans g2).trans g3) (.cons (ry.mono g3.g) rk)
theorem sm_disp {trs : List (TE × TE)} {kds : List (Key × Dat)} (h : SemPs K trs ρ kds) (hl : kds.length ≤ 15) : SemM K (tDisp trs) ρ (.pd (mergeA [] kds)) := fun G0 B0 σ G H S Q q p hp => by
  have g1 : Grow G H G (upd H p (.dK [])) := Grow.newM S.gr.s hp
  refine h _ _ _ _ _ (S.grow g1) _ fun kvs G2 H2 g2 rk => ?_
  have hg : G2 p = none := g2.m p (fresh_back S.gr.s hp) (by rw [upd_same]; simp)
  have hh : H2 p = some (.dK []) := g2.h _ _ upd_same
  have gg := g1.trans g2
  refine ⟨hh, kvs, rfl, by rw [rk.length]; exact hl, q _ [p] G2 _ ⟨gg.g, gg.s.mut hg, gg.h.mut hp, gg.m⟩ (.pd upd_same ?_) fun a ha => ?_⟩
  · rw [mergeK_mergeA]; exact rk.merge .nil
  · rcases List.mem_cons.mp ha with z | z
    · rw [z]; exact ⟨hp, hg⟩
    · cases z
/-! ### list.pop -/
theorem se_pop {ds : List Dat} (hf : SemF K to ρ i (.pl ds) wrap) (hd : ds.getLast? = some d) (hS : S d (ρ.set i (.mt (wrap (.pl ds.dropLast))))) : SemE K W (tBM0 K "list" rPop to) ρ S X := fun G0 B0 σ G H St Q q x =>
  hf _ _ _ _ _ St _ fun v G1 H1 g1 F => by
    obtain ⟨p, vs, rfl, k1, r1⟩ := F.isL
    have hd2 : ds[ds.length - 1]? = some d := by rw [← List.getLast?_eq_getElem?]; exact hd
    obtain ⟨y, z1, z2⟩ := r1.at hd2
    refine ⟨.inl ⟨rfl, _, .inl (.inl k1)⟩, p, vs, y, rfl, rfl, k1, by rw [r1.length]; exact z1, ?_⟩
    have rd : DRs K G1 vs.dropLast ds.dropLast := by
      rw [List.dropLast_eq_take, List.dropLast_eq_take, r1.length]
      exact r1.take _
    exact q d y _ G1 _ hS (F.putL g1.s rd) g1.g z2
end
/-! ### a new dict that is walked -/
def iKeysT (td : TE) : TI := fun σ H R => td σ H fun x H1 => ∃ d kvs, x = .ref d ∧ H1 d = some (.dK kvs) ∧ ∀ od, R (Itk d od kvs) (upd H1 d (.frz od (.dK kvs)))
theorem pi_keysT {X : Cx} {tg e : Expr} {td : TE} (he : PE X e td) : L2.PI X tg e (iKeysT td) := by
  refine ⟨fun pins s σ H R I h => ?_⟩
  refine thn (he.run pins s σ H _ I h) fun u s1 ⟨x, H1, I1, rx, d, kvs, ex, hd, q⟩ => ?_
  subst ex
  obtain rfl : u = Value.ref d := rx
  obtain ⟨od, I2⟩ := I1.lock hd trivial
  obtain ⟨hs, hgd, hx, es, ep, vs, hdt, hsz, kv, hm⟩ := I2.frzK upd_same
  refine iter_keys hs hgd hx hdt (pi_one (tk := s1.toks) I2 _ (turn_keys _ hdt) ⟨_, Heap.get?_push_size _ rfl, rfl, ?_⟩ (q od))
  rw [hsz] <;> rfl
theorem si_keysT {K : PySem.W.Frag} {ρ : List Sl} {td : TE} {es : List (Key × Dat)} (h : SemM K td ρ (.pd es)) : SemI K (iKeysT td) ρ (es.map fun e => kD e.1) := fun G0 B0 σ G H S R q =>
  h _ _ _ _ _ S _ fun v T G1 H1 g1 r hT => by
    cases r with
    | @pd d kvs _ hH rk =>
      have hd := hT d (.head _)
      refine ⟨d, kvs, rfl, hH, fun od => ?_⟩
      have gn : Grow G H (upd G1 d (.frz od (.dK kvs))) (upd H1 d (.frz od (.dK kvs))) := ⟨g1.g.trans (Evl.Ex.new hd.2), ex_upd2 g1.s, g1.h.mut hd.1, fun a h1 h2 => by
        have z : a ≠ d := fun z => h2 (by rw [z]; exact hd.1)
        rw [upd_ne z]; exact g1.m a h1 h2⟩
      exact q _ _ _ gn (walks_keys upd_same (rk.mono (Evl.Ex.new hd.2)))
end DL
namespace DL
open PySem PySem.Spec PyProof.Rows L2
theorem ss_par {K : PySem.W.Frag} {W : WX} {ρ : List Sl} {P : Post} {i j : Nat} {ta : TA} {a b : Dat} (h : SemA K ta ρ [a, b]) (p : P.nx ((ρ.set i (.dat a)).set j (.dat b))) : SemS K W (tPar i j ta) ρ P := fun G0 B0 σ G H D S n r bk ct x =>
  h _ _ _ _ _ S _ fun vs G1 H1 g1 rs => by
    cases rs with
    | cons h1 rs =>
      cases rs with
      | cons h2 rs =>
        cases rs
        exact ⟨_, _, rfl, n _ _ _ _ p (((S.grow g1).set h1).set h2)⟩
theorem room1 {k : Nat} {A : Around} (r : Room k A) : A.units + 1 < cLine := by have := r.un; omega
theorem ps_fldaugU {X : Cx} {K : PySem.W.Frag} {o value : Expr} {f : Str} {pos tpos : Pos} {ta tv : TE} {op : Operator} {rd : V → V → Hp → VK → Prop} (hK : X.K = K) (ha : PE X o ta) (hv : PE X value tv) (hop : InOp X op rd) : PS X (.AugAssign (.Attribute o f tpos) op value pos) (sFldAug K ta tv rd f) := by
  subst hK
  exact ps_fldaug ha hv hop
end DL

set_option Elab.async false
set_option linter.all false
set_option maxRecDepth 100000
set_option maxHeartbeats 1000000
/-! DLs: more rules where slots change on the way -/
namespace DL
open PySem PySem.Spec PyProof.Rows L2
open Evl (Ex ex_l ex_t fresh_back)
section
variable {K : PySem.W.Frag} {W : WX} {ρ : List Sl} {te to : TE} {u ta : TA} {d : Dat} {i : Nat} {o o' : OD} {wrap : OD → OD} {C : Addr} {S S' : SP} {X : XP} {P : Post}
theorem se_tup (h : SemEA K W u ρ (fun ds ρ' => S (.tup ds) ρ' ∧ ds.length ≤ sizeLine) X) : SemE K W (tTup u) ρ S X := fun G0 B0 σ G H St Q q x =>
  h _ _ _ _ _ St _ (fun ds vs ρ1 G1 H1 hs St1 e1 rv => ⟨by rw [rv.length]; exact hs.2, fun p hp => by
    have gn := Grow.new (o := .tup vs) St1.gr.s hp
    exact q (.tup ds) _ ρ1 _ _ hs.1 (St1.grow gn) (e1.trans gn.g) (.tup (.inl (.inl upd_same)) (rv.mono gn.g))⟩) x
/-- f(x, y, xs): xs, a name, is changed by the def; the things ahead of it are data -/
theorem se_callL0 {R : List Sl → Out → List Sl → Prop} {E : XK} {dp : List Dat} (hi : ρ[i]? = some (.mt o)) (hro : isRef o = true) (ha : SemA K ta ρ dp)
    (hr : ∀ a, R (dp.map .dat ++ [.mt (.me a o)]) (.val d) (dp.map .dat ++ [.mt (.me a o')])) (hS : S d (ρ.set i (.mt o')))
    (hu : ∀ σ H (Q : List V → Hp → Prop), ta σ H (fun xs H1 => ∃ v, σ[i]? = some (some v) ∧ Q (xs ++ [v]) H1) → u σ H Q) : SemE K W (tCall (spL K R) [] E u) ρ S X := fun G0 B0 σ G H St Q q x => by
  refine hu _ _ _ (ha _ _ _ _ _ St _ fun ys G1 H1 g1 ry => ?_)
  obtain ⟨v, k1, F⟩ := (St.grow g1).foc hi
  have ⟨p, e⟩ : ∃ p, v = .ref p := by
    obtain ⟨T, h1, _⟩ := F
    cases h1 with
    | dat _ => cases hro
    | me _ => cases hro
    | _ => exact ⟨_, rfl⟩
  subst e
  refine ⟨_, k1, ?_⟩
  obtain ⟨B, s1, s2⟩ := F.lend (post := []) (dq := []) g1.s ry .nil
  refine ⟨G1, B, _, _, _, by rw [List.append_nil]; exact s1, hr p, .inl ⟨d, rfl, fun v G3 H3 S3 rv => ?_⟩⟩
  rw [List.append_nil] at S3
  obtain ⟨z1, z2⟩ := s2 G3 H3 o' S3
  exact q d v _ G3 H3 hS z1 (g1.g.trans z2) rv
theorem agree_last {a : Addr} {o o' : OD} {dp : List Dat} : Agree (dp.map .dat ++ [.mt (.me a o)]) (dp.map .dat ++ [.mt (.me a o')]) where
  l := by simp
  d := fun j d h => by
    by_cases hj : j < dp.length
    · rw [List.getElem?_append_left (by rw [List.length_map]; exact hj)] at h ⊢; exact h
    · rw [List.getElem?_append_right (by rw [List.length_map]; omega)] at h
      rcases Nat.eq_zero_or_pos (j - (dp.map Sl.dat).length) with z | z
      · rw [z] at h; cases h
      · rw [List.getElem?_eq_none (by simp at z ⊢; omega)] at h; cases h
  m := fun j o1 h => by
    by_cases hj : j < dp.length
    · rw [List.getElem?_append_left (by rw [List.length_map]; exact hj)] at h
      exact absurd h dats_no
    · rw [List.getElem?_append_right (by rw [List.length_map]; omega)] at h ⊢
      rcases Nat.eq_zero_or_pos (j - (dp.map Sl.dat).length) with z | z
      · rw [z] at h ⊢; cases h; exact ⟨_, _, _, rfl, rfl⟩
      · rw [List.getElem?_eq_none (by simp at z ⊢; omega)] at h; cases h
/-- self.f, a datum, on the way -/
theorem s_fldP {i : Nat} {a0 : Addr} {f : Str} {os : List (Str × OD)} (hi : ρ[i]? = some (.mt (.me a0 (.ins C os)))) (cl : Cls K C) (hn : NoAttr K C f) (hl : os.lookup f = some (.dat d)) : Sem K (tAt K f (tVar i)) ρ d := s_fldM hi cl hn hl
end
end DL
namespace DL
open PySem PySem.Spec PyProof.Rows L2
/-- what is known of a state, told otherwise -/
def SatLe (K : PySem.W.Frag) (ρ ρ' : List Sl) : Prop := ∀ G0 B0 σ G H, Sat K G0 B0 ρ σ G H → Sat K G0 B0 ρ' σ G H
section
variable {K : PySem.W.Frag} {W : WX} {ρ ρ' ρ'' : List Sl} {i : Nat} {o : OD} {wrap : OD → OD} {P : Post} {u : TS} {te : TE}
theorem SatLe.trans (a : SatLe K ρ ρ') (b : SatLe K ρ' ρ'') : SatLe K ρ ρ'' := fun _ _ _ _ _ S => b _ _ _ _ _ (a _ _ _ _ _ S)
theorem sl_unname {p : Addr} (fa : FocA K ρ i (.me p o) wrap) : SatLe K ρ (ρ.set i (.mt (wrap o))) := fun G0 B0 σ G H S => by
  obtain ⟨v, T, h1, h2, h3⟩ := fa _ _ _ _ _ S
  cases h1 with
  | me h1 => exact h3 _ G H T (Chg.refl S.gr.s fun a ha => (h2 a ha).1) h1
theorem ss_post (h : SemS K W u ρ { P with nx := fun ρ' => ∃ ρ'', SatLe K ρ' ρ'' ∧ P.nx ρ'' }) : SemS K W u ρ P := fun G0 B0 σ G H D S n r b c x =>
  h _ _ _ _ _ D S (fun ρ' σ' G' H' ⟨ρ'', le, p⟩ S' => n _ _ _ _ p (le _ _ _ _ _ S')) r b c x
theorem st_tB {k : Bool} (h : Sem K te ρ (.bl k)) : SemT K (tB te) ρ k := fun G0 B0 σ G H S Q q =>
  h _ _ _ _ _ S _ fun v G1 H1 g1 rv => by
    cases rv
    first
    | exact ⟨k, rfl, q G1 H1 g1⟩
    | exact q G1 H1 g1
end
end DL

set_option Elab.async false
set_option linter.all false
set_option maxRecDepth 100000
set_option maxHeartbeats 1000000
/-! DLt: enumerate(a tuple) -/
namespace DL
open PySem PySem.Spec PyProof.Rows L2
open Evl (Ex ex_l ex_t fresh_back)
theorem meets_enumB1 {v : Value} {o : Obj} {H : Heap → Prop} (B : Begins v o H) :
    Meets (Builtin.«enumerate.__new__» ⟨[.type "enumerate", v], []⟩) (fun _ R s => H s.heap ∧
      R (.ok (.ret (.ref (s.heap.push o).objs.size))) { s with heap := (s.heap.push o).push { cls := .type "enumerate", data := .fields #[.none, .bool false, .ref s.heap.objs.size, rawInt 0, .none, .none] } }) :=
  .of_wp fun prog w A R s h => by
    obtain ⟨hp, g, d, tk, os⟩ := s; obtain ⟨h1, h⟩ := h
    have hsub := sub_enumerate
    have q1 : ∀ {A' : Around} {E : Value → Shared → Prop} {Q : Value → Shared → Prop}, Q (.ref hp.objs.size) ⟨hp.push o, g, d, tk, os⟩ → wpAny (model prog w) A' (pyIter v) Q E ⟨hp, g, d, tk, os⟩ :=
      fun q => B.iter prog w _ _ ⟨hp, g, d, tk, os⟩ _ h1 q
    wp_walk using q1
    refine wpAny_stack_any fun st => wpAny_pure ?_
    split
    · rename_i c _ _ _ _ _
      cases (c == Value.type "enumerate")
      · wp_walk using q1
        exact ⟨_, rfl, h⟩
      · wp_walk using q1
        exact ⟨_, rfl, h⟩
    · wp_walk using q1
      exact ⟨_, rfl, h⟩
theorem call_enumerate_tuple {prog : Program} {w : World} {A : Around} {E : Value → Shared → Prop} {s : Shared} {l : Addr} {items : Array Value} {Q : Value → Shared → Prop} (hL : s.heap.IsTuple l items)
    (h : ∀ h', IsEnum h' (s.heap.objs.size + 1) s.heap.objs.size 0 .none → h'.IsTupleIter s.heap.objs.size l 0 → h'.objs.size = s.heap.objs.size + 2 →
      (∀ b o, s.heap.get? b = some o → h'.get? b = some o) → Q (.ref (s.heap.objs.size + 1)) { s with heap := h' }) :
    wpAny (model prog w) A (call (.type "enumerate") [.ref l]) Q E s := by
  refine callType_new F.called_enumerate (by decide) (F.typeCall_enumerate_1 _) (F.newCall_enumerate_1 _) (fun obj => F.args_object_init_2 obj _) F.entry_enumerate_new
    (meets_enumB1 (begins_tuple l items)) ⟨hL, ?_⟩
  have hz : (s.heap.push { cls := .type "tuple_iterator", data := .fields #[.ref l, .int 0 0] }).objs.size = s.heap.objs.size + 1 := Heap.size_push ..
  show _ ∧ _
  rw [hz]
  have he : IsEnum ((s.heap.push { cls := .type "tuple_iterator", data := .fields #[.ref l, .int 0 0] }).push
      { cls := .type "enumerate", data := .fields #[.none, .bool false, .ref s.heap.objs.size, rawInt 0, .none, .none] }) (s.heap.objs.size + 1) s.heap.objs.size 0 .none := by
    have := Heap.get?_push_size (s.heap.push { cls := .type "tuple_iterator", data := .fields #[.ref l, .int 0 0] })
      (o := { cls := .type "enumerate", data := .fields #[.none, .bool false, .ref s.heap.objs.size, rawInt 0, .none, .none] }) rfl
    rw [hz] at this; exact this
  refine ⟨⟨_, he, rfl⟩, h _ he ⟨_, Heap.get?_push_of_some _ (Heap.get?_push_size _ rfl), rfl, rfl⟩ (by rw [Heap.size_push, hz]) fun b o x => Heap.get?_push_of_some _ (Heap.get?_push_of_some _ x)⟩
def Itet (K : PySem.W.Frag) (a : Addr) : It :=
  ⟨fun i H => ∃ (xs : List V) (x : V), SqT K H a xs ∧ xs[i]? = some x, fun i H v H' => ∃ T x, v = .ref T ∧ H T = none ∧ H' = upd H T (.tup [.int (i : Nat), x]) ∧ ∀ xs, SqT K H a xs → xs[i]? = some x, fun i H => ∃ xs : List V, SqT K H a xs ∧ xs.length ≤ i⟩
theorem turn_enumT {P : Program} {w : World} {K : PySem.W.Frag} {elts : List Expr} {kk : Nat} {tpos : Pos} (a e it : Addr) :
    Turn P w K (.Tuple elts kk tpos) (Itet K a) [e, it] e (fun i h => (∃ old, IsEnum h e it ((i : Nat) : Int) old) ∧ h.IsTupleIter it a i ∧ e ≠ it) where
  mem := by simp
  obj := fun i h st b hb => by
    obtain ⟨⟨old, he⟩, ⟨o, ho, hc, hd⟩, _⟩ := st
    have e' : b = e ∨ b = it := by simpa using hb
    rcases e' with z | z
    · rw [z]; exact ⟨_, he, fun v q => nomatch q⟩
    · rw [z]; exact ⟨o, ho, fun v q => by rw [hd] at q; cases q⟩
  keep := fun i h h' st k => let ⟨⟨old, he⟩, hi, hne⟩ := st; ⟨⟨old, k e (by simp) _ he⟩, hi.at fun o q => k it (by simp) o q, hne⟩
  item := by
    intro X hP hw hK hc i pins s σ H E I hf st hg
    subst hP hw hK
    obtain ⟨⟨old, he⟩, hit, hne⟩ := st
    obtain ⟨xs, x, hq, hx⟩ := hg
    obtain ⟨its, rv, p, hz⟩ := I.tuple hq
    obtain ⟨u, hu, ru⟩ := rv.get hx
    have hel : e < s.heap.objs.size := Heap.lt_size he
    have hil : it < s.heap.objs.size := by obtain ⟨_, q, _⟩ := hit; exact Heap.lt_size q
    have pT : s.heap.IsTuple a its.toArray := p
    have hai : a ≠ it := fun z => by
      obtain ⟨o1, q1, c1, _⟩ := hit
      obtain ⟨o2, q2, c2, _⟩ := pT
      rw [z, q1] at q2
      cases q2
      rw [c1] at c2
      injection c2 with c3
      exact absurd c3 (by decide)
    have hae : e ≠ a := fun z => by
      obtain ⟨o2, q2, c2, _⟩ := pT
      have he' := he
      unfold IsEnum at he'
      rw [z, q2] at he'
      cases he'
      injection c2 with c3
      exact absurd c3 (by decide)
    have hilt : i < its.toArray.size := by
      have := (List.getElem?_eq_some_iff.mp hu).1
      simpa using this
    refine wpAny_pyNext_enum_itemD (Draws.tuple (A := X.A.in1) (show X.A.in1.handled = none from I.ok.hd hc) it a hai its.toArray) he ⟨hit, pT⟩ hilt hne (by simp [hne, hae]) fun x' h' tk hP ho st' hT hsz hk => ?_
    have ex : x' = u := by
      have : its.toArray[i]? = some u := by simpa using hu
      rw [this] at hP
      exact (Option.some.inj hP).symm
    subst ex
    have hit' := st'.1
    refine ⟨_, rfl, wpAny_letOwnedTupleGo_enum (s := { s with heap := h', toks := tk + 1 }) ho fun h'' he' sb => ?_⟩
    have hT2 : h''.get? s.heap.objs.size = some { cls := .type "tuple", data := .seq #[.int i tk, x'] } := (sb.2 _ (Nat.ne_of_gt hel)).trans hT
    have new : ObjOk X.prog X.w (upd H s.heap.objs.size (.tup [.int (i : Nat), x])) h'' s.heap.objs.size (.tup [.int (i : Nat), x]) :=
      ⟨by show 2 ≤ sizeLine; decide, [.int i tk, x'], .cons ⟨_, rfl⟩ (.cons ru .nil), ⟨_, hT2, rfl, _, rfl⟩⟩
    have I1 : Inv X pins σ (upd H s.heap.objs.size (.tup [.int (i : Nat), x])) { s with heap := h'', toks := tk + 1 } :=
      I.turnedNew (ch := [e, it]) (fun b ob hb q => (sb.2 b (fun z => hb (by simp [z]))).trans (hk b ob (fun z => hb (by simp [z])) (fun z => hb (by simp [z])) q)) hf (Nat.le_refl _) new
    refine ⟨.ref s.heap.objs.size, _, I1, rfl, ⟨_, x, rfl, I.hok.fresh (Nat.le_refl _), rfl, fun ys hy => by rw [I.tuple_inj hy hq]; exact hx⟩, ⟨⟨x', ?_⟩, hit'.at fun o q => (sb.2 it (Ne.symm hne)).trans q, hne⟩, fun b hb => ?_⟩
    · have e1 : ((i + 1 : Nat) : Int) = (i : Int) + 1 := by omega
      rw [e1]; exact he'
    · have hb' : b < s.heap.objs.size := by
        have e' : b = e ∨ b = it := by simpa using hb
        rcases e' with z | z
        · rw [z]; exact hel
        · rw [z]; exact hil
      rw [upd_ne (Nat.ne_of_lt hb')]
      exact (hf b hb).1
  done := by
    intro X hP hw hK hc i pins s σ H E I hf st hg
    subst hP hw hK
    obtain ⟨⟨old, he⟩, hit, hne⟩ := st
    obtain ⟨xs, hq, hx⟩ := hg
    obtain ⟨its, rv, p, hz⟩ := I.tuple hq
    obtain ⟨f0, f1, f2, f3, f4, f5⟩ := hf it (by simp)
    have pT : s.heap.IsTuple a its.toArray := p
    have hai : a ≠ it := fun z => by
      obtain ⟨o1, q1, c1, _⟩ := hit
      obtain ⟨o2, q2, c2, _⟩ := pT
      rw [z, q1] at q2
      cases q2
      rw [c1] at c2
      injection c2 with c3
      exact absurd c3 (by decide)
    have hT : s.TypeIs (.ref e) "enumerate" := ⟨_, he, rfl⟩
    have hl := rv.length
    unfold pyNext
    refine wpAny_bind (wpAny_attempt (wpAny_callSpecial?_slot (name := Str.ofString "__next__") hT F.slot_enumerate_next
      (wpAny_call_entry F.slot_enumerate_next hT F.entry_enumerate_next ?_ (F.args_enumerate_next_1 _))))
    show wpAny _ _ (field (.ref e) 2 >>= _) _ _ _
    refine wpAny_bind (wpAny_field he rfl (x := .ref it) rfl ?_)
    refine wpAny_bind (wpAny_nextOf_tuple_end (show X.A.in1.handled = none from I.ok.hd hc) hit pT (by simp; omega) fun h' x he' hx' => ?_)
    obtain ⟨o, ho, hcl⟩ := hx'
    refine wpAny_bind (wpAny_isInstance (T := "StopIteration") (b := true) ⟨o, ho, hcl⟩ isSubtype_stop ?_)
    exact wpAny_pure ⟨rfl, I.turned (t' := s.toks) (fun b o hb q => he' b o hb q) f0 f1 f3 f4 f5⟩
  self := fun A i s Q E st h => let ⟨⟨_, he⟩, _⟩ := st; wpAny_pyIter_enum he h
/-- enumerate of a list or a tuple -/
def iEnumU (K : PySem.W.Frag) (ta : TA) : TI := fun σ H R => ta σ H fun vs H1 => (∃ a xs, vs = [.ref a] ∧ SqL K H1 a xs ∧ R (Ite K a) H1) ∨ ∃ a xs, vs = [.ref a] ∧ SqT K H1 a xs ∧ R (Itet K a) H1
theorem pi_enumV {X : Cx} {K : PySem.W.Frag} {e : Expr} {ta : TA} {p pos tpos : Pos} {elts : List Expr} {kk : Nat} (hK : X.K = K) (hg : Gl X "enumerate") (hm : X.mg "enumerate" = none) (ha : PA X [e] ta) (hs : starEach [e] X.env = [(false, eval e X.env)] := by rfl) :
    L2.PI X (.Tuple elts kk tpos) (.Call (.Name "enumerate" p) [e] [] pos) (iEnumU K ta) := by
  subst hK
  refine ⟨fun pins s σ H R I h => ?_⟩
  refine Call_ (ld_blt I hg hm boot_enumerate (PyProof.Rows.callWith_type1 (thn (ha.run pos pins s σ H _ I h) fun us s1 ⟨vs, H1, I1, r1, q1⟩ => ?_) hs rfl))
  rcases q1 with ⟨a, xs, ex, hq, q⟩ | ⟨a, xs, ex, hq, q⟩
  · subst ex
    cases r1 with
    | cons r rr =>
      cases rr
      cases r
      obtain ⟨its, rv, p', hz⟩ := I1.list hq
      refine call_enumerate_list p'.isList fun h' he hit hsz hk => wpAny_pyIter_enum he ?_
      have I2 : Inv X pins σ H1 { s1 with heap := h' } := I1.kept (t' := s1.toks) hk
      refine ⟨s1.heap.objs.size + 1, [s1.heap.objs.size + 1, s1.heap.objs.size], _, _, H1, rfl, I2, turn_enum a (s1.heap.objs.size + 1) s1.heap.objs.size, ⟨⟨.none, he⟩, hit, Nat.succ_ne_self _⟩, fun b hb => ?_, q⟩
      have e' : b = s1.heap.objs.size + 1 ∨ b = s1.heap.objs.size := by simpa using hb
      have hle : s1.heap.objs.size ≤ b := by
        rcases e' with z | z
        · rw [z]; exact Nat.le_add_right _ _
        · rw [z]; exact Nat.le_refl _
      exact I1.fpOk hle (I1.hok.fresh hle)
  · subst ex
    cases r1 with
    | cons r rr =>
      cases rr
      cases r
      obtain ⟨its, rv, p', hz⟩ := I1.tuple hq
      refine call_enumerate_tuple (show s1.heap.IsTuple a its.toArray from p') fun h' he hit hsz hk => wpAny_pyIter_enum he ?_
      have I2 : Inv X pins σ H1 { s1 with heap := h' } := I1.kept (t' := s1.toks) hk
      refine ⟨s1.heap.objs.size + 1, [s1.heap.objs.size + 1, s1.heap.objs.size], _, _, H1, rfl, I2, turn_enumT a (s1.heap.objs.size + 1) s1.heap.objs.size, ⟨⟨.none, he⟩, hit, Nat.succ_ne_self _⟩, fun b hb => ?_, q⟩
      have e' : b = s1.heap.objs.size + 1 ∨ b = s1.heap.objs.size := by simpa using hb
      have hle : s1.heap.objs.size ≤ b := by
        rcases e' with z | z
        · rw [z]; exact Nat.le_add_right _ _
        · rw [z]; exact Nat.le_refl _
      exact I1.fpOk hle (I1.hok.fresh hle)
section
variable {K : PySem.W.Frag} {ρ : List Sl}
theorem walks_enumT {G : Hp} {p : Addr} {xs : List V} {ds : List Dat} (h : SqT K G p xs) (r : DRs K G xs ds) : Walks K (Itet K p) G (ds.zipIdx.map fun z => .tup [.int ((z.2 : Nat) : Int), z.1]) where
  go := fun i G' H e1 e2 hi => ⟨xs, xs[i]'(by rw [List.length_map, List.length_zipIdx] at hi; rw [r.length]; exact hi), ex_t e2 (ex_t e1 h), List.getElem?_eq_getElem _⟩
  yld := fun i G' H x H' d e1 e2 hd y => by
    obtain ⟨T, x1, rfl, hT, rfl, hq⟩ := y
    have hx := hq xs (ex_t e2 (ex_t e1 h))
    obtain ⟨d', h1, h2⟩ := r.get hx
    rw [List.getElem?_map, List.getElem?_zipIdx, h1] at hd
    cases hd
    have gn := Grow.new (o := .tup [.int (i : Nat), x1]) e2 hT
    refine ⟨_, gn, .tup (.inl (.inl upd_same)) (.cons ?_ (.cons ((h2.mono e1).mono gn.g) .nil))⟩
    simp only [Nat.zero_add]
    exact .int _
  stop := fun i G' H e1 e2 hi => ⟨xs, ex_t e2 (ex_t e1 h), by rw [List.length_map, List.length_zipIdx] at hi; rw [r.length]; exact hi⟩
theorem si_enumU {u : TA} {ds : List Dat} {q : Bool} (h : SemA K u ρ [sq q ds]) : SemI K (iEnumU K u) ρ (ds.zipIdx.map fun z => .tup [.int ((z.2 : Nat) : Int), z.1]) := fun G0 B0 σ G H S R qq =>
  h _ _ _ _ _ S _ fun xs G1 H1 g1 rs => by
    cases rs with
    | cons h1 rs =>
      cases rs
      cases q with
      | true =>
        first
        | (cases h1 with
           | lst a1 r1 => exact .inl ⟨_, _, rfl, .inl (.inl (g1.s _ _ a1)), qq _ G1 H1 g1 (walks_enum a1 r1)⟩)
        | (cases h1 with
           | tup a1 r1 => exact .inr ⟨_, _, rfl, ex_t g1.s a1, qq _ G1 H1 g1 (walks_enumT a1 r1)⟩)
      | false =>
        first
        | (cases h1 with
           | lst a1 r1 => exact .inl ⟨_, _, rfl, .inl (.inl (g1.s _ _ a1)), qq _ G1 H1 g1 (walks_enum a1 r1)⟩)
        | (cases h1 with
           | tup a1 r1 => exact .inr ⟨_, _, rfl, ex_t g1.s a1, qq _ G1 H1 g1 (walks_enumT a1 r1)⟩)
end
end DL

set_option Elab.async false
set_option linter.all false
set_option maxRecDepth 100000
set_option maxHeartbeats 1000000
/-! DLu: copies of what one owns, list.clear, dict(..), dicts of ints compared, pairs of a new dict walked, classes made of what one owns -/
namespace DL
open PySem PySem.Spec PyProof.Rows L2
open Evl (Ex ex_l ex_t fresh_back)
/-! ### dict(..) -/
def uDict (K : PySem.W.Frag) : List V → Hp → VK → Prop := fun xs H Q => (∃ a kvs, xs = [.ref a] ∧ Rd H a (.dK kvs) ∧ ∀ p, H p = none → Q (.ref p) (upd H p (.dK kvs))) ∨
  (∃ (a : Addr) (ps : List Addr) (kvs : List (Key × V)), xs = [.ref a] ∧ SqL K H a (ps.map V.ref) ∧ Paired (fun p kv => SqT K H p [kV kv.1, kv.2]) ps kvs ∧ ∀ p, H p = none → Q (.ref p) (upd H p (.dK (mergeK [] kvs))))
theorem cu_dict {X : Cx} {K : PySem.W.Frag} (hK : X.K = K) (hc : X.calm = true) : CallR X (.type "dict") (uDict K) := by
  subst hK
  intro pins s σ H xs us Q I r q
  rcases q with ⟨a, kvs, ex, e, q⟩ | q
  · subst ex
    obtain ⟨u, eu, rx⟩ := vals1 r
    subst eu
    cases rx
    exact d_copyOf I e fun p s' hp I' => ⟨.ref p, _, I', rfl, q p hp⟩
  · exact call_dictP hc pins s σ H xs us Q I r q
/-! ### dicts of ints compared -/
def eqDI (xs ys : List (Key × Int)) : Bool := xs.length == ys.length && xs.all fun p => getA ys p.1 == some p.2
def rNeDI : R2 := fun x y H Q => ∃ (a b : Addr) (xs ys : List (Key × Int)), x = .ref a ∧ y = .ref b ∧ Rd H a (.dK (xs.map fun p => (p.1, V.int p.2))) ∧ Rd H b (.dK (ys.map fun p => (p.1, V.int p.2))) ∧ Q (.bl (!eqDI xs ys)) H
theorem getA_map {κ α β : Type} [DecidableEq κ] (f : α → β) (k : κ) : ∀ kvs : List (κ × α), getA (kvs.map fun p => (p.1, f p.2)) k = (getA kvs k).map f
  | [] => rfl
  | (j, x) :: r => by
    show (if j = k then some (f x) else getA (r.map fun p => (p.1, f p.2)) k) = (if j = k then some x else getA r k).map f
    by_cases q : j = k
    · rw [if_pos q, if_pos q]; rfl
    · rw [if_neg q, if_neg q]; exact getA_map f k r
theorem hitsDI {A : Around} {s : Shared} {ys : List (Key × Int)} {vb : List (Key × Value)} (rb : KV (ys.map fun p => (p.1, V.int p.2)) vb) : ∀ {xs : List (Key × Int)} {va : List (Key × Value)}, KV (xs.map fun p => (p.1, V.int p.2)) va →
    ∃ r, PySem.W.KeqHits A s vb va r ∧ r = xs.all fun p => getA ys p.1 == some p.2
  | [], va, ra => by
    cases ra
    exact ⟨true, .nil, rfl⟩
  | (k, i) :: xs, va, ra => by
    cases ra with
    | @cons _ q _ qs h t =>
      obtain ⟨h1, h2⟩ := h
      obtain ⟨key, v⟩ := q
      obtain rfl : k = key := h1
      obtain ⟨tk, rfl⟩ : ∃ t, v = Value.int i t := h2
      obtain ⟨r, hr, er⟩ := hitsDI (A := A) (s := s) rb t
      have hv := rb.val k
      rw [valV_getA, getA_map] at hv
      cases hg : getA ys k with
      | none =>
        rw [hg] at hv
        have hn : valueAt vb k = none := by
          cases z : valueAt vb k with
          | none => rfl
          | some u => rw [z] at hv; exact hv.elim
        refine ⟨false, .miss hn, ?_⟩
        simp [List.all_cons, hg]
      | some j =>
        rw [hg] at hv
        obtain ⟨u, hu, ru⟩ := RelO.some_of hv
        obtain ⟨tu, rfl⟩ : ∃ t, u = Value.int j t := ru
        refine ⟨_, .hit hu (SeqAt.EqAt.int_int i tk j tu) hr, ?_⟩
        rw [er]
        simp only [List.all_cons, hg]
        congr 1
        by_cases e : i = j
        · subst e; simp
        · have e' : ¬ j = i := fun z => e z.symm
          rw [beq_eq_false_iff_ne.mpr e]
          symm
          simpa using e'
theorem op_neDI {X : Cx} (hu : X.A.units + 64 < cLine) : OpR X (compareOp .NotEq) rNeDI := by
  intro pins s σ H x y v u Q I rx ry h
  obtain ⟨a, b, xs, ys, rfl, rfl, ha, hb, q⟩ := h
  cases rx; cases ry
  obtain ⟨_, ya, va, ra, da⟩ := dk_rd I.hok ha
  obtain ⟨_, yb, vb, rb, db⟩ := dk_rd I.hok hb
  obtain ⟨r, hr, er⟩ := hitsDI (A := X.A.in1) (s := s) rb ra
  refine PySem.W.keq_ne (knd := mixKind X.prog X.w) (r := r) ya yb da db (by omega) (fun _ => hr) ⟨.bl _, H, I, rfl, ?_⟩
  have e : (va.length == vb.length && r) = eqDI xs ys := by
    rw [er]
    unfold eqDI
    have l1 := ra.length
    have l2 := rb.length
    rw [List.length_map] at l1 l2
    rw [← l1, ← l2]
  rw [e]
  exact q
def uNeK (K : PySem.W.Frag) : R2 := fun x y H Q => uNe K x y H Q ∨ rNeDI x y H Q
theorem ou_neK {X : Cx} {K : PySem.W.Frag} (hK : X.K = K) (hu : X.A.units + 64 < cLine) : OpR X (compareOp .NotEq) (uNeK K) := OpR.or (ou_ne hK hu) (op_neDI hu)
theorem DRk.ints {K : PySem.W.Frag} {G : Hp} : ∀ {vs : List (Key × V)} {ns : List (Key × Int)}, DRk K G vs (ns.map fun p => (p.1, .int p.2)) → vs = ns.map fun p => (p.1, V.int p.2)
  | [], [], _ => rfl
  | _, (k, n) :: ns, h => by
    cases h with
    | cons h r =>
      cases h
      rw [List.map_cons, ← DRk.ints r]
theorem os_neDI {K : PySem.W.Frag} {xs ys : List (Key × Int)} : OpS K (uNeK K) (.dct (xs.map fun p => (p.1, .int p.2))) (.dct (ys.map fun p => (p.1, .int p.2))) (.bl (!eqDI xs ys)) := fun x y G H e rx ry Q q => by
  cases rx with
  | dct h1 r1 =>
    cases ry with
    | dct h2 r2 =>
      have e1 := DRk.ints r1
      have e2 := DRk.ints r2
      subst e1; subst e2
      exact .inr ⟨_, _, _, _, rfl, rfl, rd_ex e h1, rd_ex e h2, q _ _ _ (Grow.refl e) (.bl _)⟩
/-! ### copies of what one owns -/
section
variable {K : PySem.W.Frag} {W : WX} {ρ : List Sl} {te to : TE} {u ta : TA} {d : Dat} {i : Nat} {o o' : OD} {wrap : OD → OD} {C : Addr} {S S' : SP} {X : XP} {P : Post}
theorem sn_listF {ds : List Dat} (hf : SemF K te ρ i (.pl ds) wrap) : SemN K (tCB (uList K) (tCons te tNil)) ρ ds := fun G0 B0 σ G H St Q q =>
  hf _ _ _ _ _ St _ fun v G1 H1 g1 F => by
    obtain ⟨p, vs, rfl, k1, r1⟩ := F.isL
    exact ⟨p, vs, rfl, .inl (.inl (.inl k1)), fun l hl => q l vs G1 _ (g1.trans (Grow.newM g1.s hl)) (fresh_back g1.h hl) (fresh_back g1.s hl) upd_same r1⟩
theorem sm_dcopy {es : List (Key × Dat)} (h : Sem K te ρ (.dct es)) : SemM K (tCB (uDict K) (tCons te tNil)) ρ (.pd es) := fun G0 B0 σ G H St Q q =>
  h _ _ _ _ _ St _ fun v G1 H1 g1 r => by
    cases r with
    | dct h1 r1 =>
      refine .inl ⟨_, _, rfl, rd_ex g1.s h1, fun l hl => q _ [l] G1 _ (g1.trans (Grow.newM g1.s hl)) (.pd upd_same r1) fun a ha => ?_⟩
      rcases List.mem_singleton.mp ha with rfl
      exact ⟨fresh_back g1.h hl, fresh_back g1.s hl⟩
theorem sm_dcopyF {es : List (Key × Dat)} (hf : SemF K te ρ i (.pd es) wrap) : SemM K (tCB (uDict K) (tCons te tNil)) ρ (.pd es) := fun G0 B0 σ G H St Q q =>
  hf _ _ _ _ _ St _ fun v G1 H1 g1 F => by
    obtain ⟨p, vs, rfl, k1, r1⟩ := F.isD
    refine .inl ⟨p, vs, rfl, .inl k1, fun l hl => q _ [l] G1 _ (g1.trans (Grow.newM g1.s hl)) (.pd upd_same r1) fun a ha => ?_⟩
    rcases List.mem_singleton.mp ha with rfl
    exact ⟨fresh_back g1.h hl, fresh_back g1.s hl⟩
/-- pairs, as the tuples that tell them -/
theorem pairs_dat {G H : Hp} (e : Ex G H) : ∀ {vs : List V} {kds : List (Key × Dat)}, DRs K G vs (kds.map fun kd => .tup [kD kd.1, kd.2]) → ∃ (ps : List Addr) (kvs : List (Key × V)), vs = ps.map V.ref ∧ Paired (fun p kv => SqT K H p [kV kv.1, kv.2]) ps kvs ∧ DRk K G kvs kds
  | [], [], _ => ⟨[], [], rfl, .nil, .nil⟩
  | _, (k, d) :: kds, h => by
    cases h with
    | cons h r =>
      obtain ⟨ps, kvs, rfl, h2, h3⟩ := pairs_dat e r
      cases h with
      | @tup a xs ds hq hr =>
        cases hr with
        | cons a1 hr =>
          cases hr with
          | cons a2 hr =>
            cases hr
            rename_i v1 v2
            have ek : v1 = kV k := by
              cases k with
              | inl i => cases a1; rfl
              | inr x =>
                cases a1
                show V.str _ = V.str x
                congr 1
            subst ek
            exact ⟨a :: ps, (k, v2) :: kvs, rfl, .cons (ex_t e hq) h2, .cons a2 h3⟩
theorem sm_dpairs {kds : List (Key × Dat)} (h : SemA K u ρ [.lst (kds.map fun kd => .tup [kD kd.1, kd.2])]) : SemM K (tCB (uDict K) u) ρ (.pd (mergeA [] kds)) := fun G0 B0 σ G H St Q q =>
  h _ _ _ _ _ St _ fun vs G1 H1 g1 rs => by
    cases rs with
    | cons h1 rs =>
      cases rs
      cases h1 with
      | lst a1 r =>
        obtain ⟨ps, kvs, rfl, h2, h3⟩ := pairs_dat g1.s r
        refine .inr ⟨_, ps, kvs, rfl, .inl (.inl (g1.s _ _ a1)), h2, fun l hl => q _ [l] G1 _ (g1.trans (Grow.newM g1.s hl)) (.pd upd_same ?_) fun a ha => ?_⟩
        · rw [mergeK_mergeA]
          exact DRk.merge h3 .nil
        · rcases List.mem_singleton.mp ha with rfl
          exact ⟨fresh_back g1.h hl, fresh_back g1.s hl⟩
/-- xs.clear() -/
theorem se_clear {ds : List Dat} (hf : SemF K to ρ i (.pl ds) wrap) (hS : S .non (ρ.set i (.mt (wrap (.pl []))))) : SemE K W (tBM0 K "list" rClear to) ρ S X := fun G0 B0 σ G H St Q q x =>
  hf _ _ _ _ _ St _ fun v G1 H1 g1 F => by
    obtain ⟨p, vs, rfl, k1, r1⟩ := F.isL
    exact ⟨.inl ⟨rfl, _, .inl (.inl k1)⟩, p, vs, rfl, rfl, k1, q .non .non _ G1 _ hS (F.putL g1.s .nil) g1.g .non⟩
theorem ss_clear {ds : List Dat} (hf : SemF K to ρ i (.pl ds) wrap) (p : P.nx (ρ.set i (.mt (wrap (.pl []))))) : SemS K W (tDrop (tBM0 K "list" rClear to)) ρ P :=
  ss_dropE (S := fun _ ρ' => ρ' = ρ.set i (.mt (wrap (.pl [])))) (X := noX) (se_clear hf rfl) (fun d ρ' h => by rw [h]; exact p) (fun _ _ _ h => h.elim)
end
/-! ### pairs of a new dict -/
def iItemsT (td : TE) : TI := fun σ H R => td σ H fun x H1 => ∃ d kvs, x = .ref d ∧ H1 d = some (.dK kvs) ∧ ∀ od, R (Iti d od kvs) (upd H1 d (.frz od (.dK kvs)))
theorem pi_itemsT {X : Cx} {e : Expr} {td : TE} {apos cpos tpos : Pos} {elts : List Expr} {kk : Nat} (he : PE X e td) (hbase : attributeBase e "items" X.env (eval e X.env) = eval e X.env := by rfl) (hline : (apos.endLine == cpos.line) = true := by rfl) :
    L2.PI X (.Tuple elts kk tpos) (.Call (.Attribute e "items" apos) [] [] cpos) (iItemsT td) := by
  refine ⟨fun pins s σ H R I h => ?_⟩
  refine wpAny_Call_method (T := "dict") (id := "dict.items") hbase rfl hline F.plainAttrs_dict F.slot_dict_items F.type_dict_items (thn (he.run pins s σ H _ I h) fun u s1 ⟨x, H1, I0, rx, d, kvs, ex, hd, q⟩ => ?_)
  subst ex
  obtain rfl : u = Value.ref d := rx
  obtain ⟨od, I1⟩ := I0.lock hd trivial
  have q := q od
  obtain ⟨hs, hgd, hx, es, ep, vs, hdt, hsz, kv, hm⟩ := I1.frzK upd_same
  have hl : kvs.length = vs.length := Paired.length kv
  refine ⟨hm.dictOf.typeIs, hm.dictOf.mapOf.noDict, ?_⟩
  have I2 := I1.kept (t' := s1.toks) (h' := s1.heap.push { cls := .type "dict_items", data := .fields #[.ref d] }) fun b ob q => Heap.get?_push_of_some _ q
  have fin : wpAny (model X.prog X.w) X.A (pyIter (.ref s1.heap.objs.size)) (PIE X pins σ (.Tuple elts kk tpos) R) X.xe { s1 with heap := s1.heap.push { cls := .type "dict_items", data := .fields #[.ref d] } } := by
    refine wpAny_pyIter_items (d := d) (knd := mixKind X.prog X.w) ⟨_, Heap.get?_push_size _ rfl, rfl, rfl⟩ (hm.push _) (pi_one (tk := s1.toks) I2 _ (turn_items _ hdt) ⟨.none, .none, ?_⟩ q)
    rw [hl]
    exact Heap.get?_push_size _ rfl
  exact method_meetsIn F.slot_dict_items F.entry_dict_items rfl (PySem.evalArgs_none ⟨rfl, hm.dictOf.typeIs, F.args_dict_items_1 _, _, meets_dict_items (mixKind X.prog X.w) d hs, ⟨vs, hm.dictOf⟩, fin⟩)
theorem si_itemsT {K : PySem.W.Frag} {ρ : List Sl} {td : TE} {es : List (Key × Dat)} (h : SemM K td ρ (.pd es)) : SemI K (iItemsT td) ρ (es.map fun e => .tup [kD e.1, e.2]) := fun G0 B0 σ G H S R q =>
  h _ _ _ _ _ S _ fun v T G1 H1 g1 r hT => by
    cases r with
    | @pd d kvs _ hH rk =>
      have hd := hT d (.head _)
      refine ⟨d, kvs, rfl, hH, fun od => ?_⟩
      have gn : Grow G H (upd G1 d (.frz od (.dK kvs))) (upd H1 d (.frz od (.dK kvs))) := ⟨g1.g.trans (Evl.Ex.new hd.2), ex_upd2 g1.s, g1.h.mut hd.1, fun a h1 h2 => by
        have z : a ≠ d := fun z => h2 (by rw [z]; exact hd.1)
        rw [upd_ne z]; exact g1.m a h1 h2⟩
      exact q _ _ _ gn (walks_items upd_same (rk.mono (Evl.Ex.new hd.2)))
/-! ### a class made of what one owns -/
section
variable {K : PySem.W.Frag} {G0 B0 G H G' H' : Hp} {ρ as : List Sl} {σ : L2.St}
theorem Sat.tail {s : Sl} {v : Option V} (S : Sat K G0 B0 (s :: as) (v :: σ) G H) : Sat K G0 B0 as σ G H := by
  obtain ⟨F, f1, f2⟩ := S.fp
  refine ⟨S.gr, by have := S.len; simpa using this, fun i d h => S.dat (i + 1) d h, fun i => F (i + 1), fun i o h => f1 (i + 1) o h, fun i j o o' n h1 h2 => f2 (i + 1) (j + 1) o o' (fun z => n (by omega)) h1 h2⟩
theorem Sat.consNew {v : V} {o : OD} {T : List Addr} (S : Sat K G0 B0 as σ G H) (g : Grow G H G' H') (r : OR K G' H' v o T) (hT : ∀ a ∈ T, H a = none ∧ G' a = none) : Sat K G0 B0 (.mt o :: as) (some v :: σ) G' H' := by
  have S1 := S.grow g
  obtain ⟨F, f1, f2⟩ := S.fp
  have hth : ∀ (i : Nat) o, as[i]? = some (.mt o) → ∀ a ∈ F i, H a ≠ none := fun i o h a ha => by
    obtain ⟨v, _, k2, _⟩ := f1 i o h
    exact k2.there a ha
  have hB : ∀ a ∈ T, B0 a = none := fun a ha => fresh_back S.gr.h (hT a ha).1
  refine ⟨S1.gr, by rw [List.length_cons, List.length_cons, S.len], fun i d h => ?_, fun i => if i = 0 then T else F (i - 1), fun i o' h => ?_, fun i j o1 o2 n h1 h2 => ?_⟩
  · cases i with
    | zero => cases h
    | succ i => exact S1.dat i d h
  · cases i with
    | zero =>
      cases h
      exact ⟨v, rfl, r, fun a ha => ⟨(hT a ha).2, hB a ha⟩⟩
    | succ i =>
      obtain ⟨v', k1, k2, k3⟩ := f1 i o' h
      refine ⟨v', k1, k2.keep g.g fun a _ u hu => g.h _ _ hu, fun a ha => ⟨g.m a (k3 a ha).1 (k2.there a ha), (k3 a ha).2⟩⟩
  · cases i with
    | zero =>
      cases j with
      | zero => exact absurd rfl n
      | succ j => exact fun a ha hb => hth j o2 h2 a hb (hT a ha).1
    | succ i =>
      cases j with
      | zero => exact fun a ha hb => hth i o1 h1 a ha (hT a hb).1
      | succ j => exact f2 i j o1 o2 (fun z => n (by omega)) h1 h2
end
section
variable {K : PySem.W.Frag} {W : WX} {ρ : List Sl} {te to : TE} {u ta : TA} {d : Dat} {i : Nat} {o o' oi : OD} {wrap : OD → OD} {C : Addr} {S S' : SP} {X : XP} {P : Post}
theorem newSelf {G H : Hp} {x dx : Addr} (e : Ex G H) (hx : H x = none) (hdx : H dx = none) (hne : dx ≠ x) : Grow G H G (upd (upd H dx (.own x)) x (.ins C dx [])) :=
  (Grow.newM e hdx).trans (Grow.newM (e.trans (Evl.Ex.new hdx)) (by rw [upd_ne (fun z => hne z.symm)]; exact hx))
/-- C(xs), xs a name of one's own list that C's __init__ copies: the thing is told to others -/
theorem se_mkL {R : List Sl → Out → List Sl → Prop} {E : L2.St → XK} (hi : ρ[i]? = some (.mt oi)) (hro : isRef oi = true)
    (hr : ∀ x a, R [.mt (.me x (.ins C [])), .mt (.me a oi)] (.val .non) [.mt (.me x o), .mt (.me a oi)]) (hS : S (frz o) (ρ.set i (.mt oi))) : SemE K W (tMkU C (spL K R) [] E (tCons (tVar i) tNil)) ρ S X := fun G0 B0 σ G H St Q q x => by
  obtain ⟨v, k1, F⟩ := St.foc hi
  have ⟨p, e⟩ : ∃ p, v = .ref p := by
    obtain ⟨T, h1, _⟩ := F
    cases h1 with
    | dat _ => cases hro
    | me _ => cases hro
    | _ => exact ⟨_, rfl⟩
  subst e
  refine ⟨_, k1, ?_⟩
  intro x dx hx hdx hne
  obtain ⟨B, s1, s2⟩ := F.lend (pre := []) (post := []) (dp := []) (dq := []) St.gr.s .nil .nil
  have gn := newSelf (C := C) St.gr.s hx hdx hne
  have s3 := s1.consNew gn (.me (.ins (a := x) (C := C) (dx := dx) (fs := []) upd_same .nil (by simp))) (fun a ha => by
    rcases List.mem_singleton.mp ha with rfl
    exact ⟨hx, fresh_back St.gr.s hx⟩)
  refine ⟨G, B, _, _, _, s3, hr x p, .inl ⟨.non, rfl, fun v G3 H3 S3 rv => ?_⟩⟩
  cases rv
  refine ⟨rfl, ?_⟩
  obtain ⟨G4, S4, e4⟩ := S3.freezeM (i := 0) rfl
  have S5 := (Sat.tail S4 : Sat K G B [.mt (.me p oi)] _ G4 H3)
  obtain ⟨z1, z2⟩ := s2 G4 H3 oi S5
  obtain ⟨v0, y1, y2⟩ := S4.dat 0 (frz (.me x o)) rfl
  cases y1
  exact q (frz o) _ _ G4 H3 hS z1 z2 y2
/-- C(xs), xs a datum -/
theorem se_mkL1 {R : List Sl → Out → List Sl → Prop} {E : L2.St → XK} {d : Dat} (ha : Sem K te ρ d)
    (hr : ∀ x, R [.mt (.me x (.ins C [])), .dat d] (.val .non) [.mt (.me x o), .dat d]) : SemM K (tMkU C (spL K R) [] E (tCons te tNil)) ρ o := fun G0 B0 σ G H St Q q => by
  refine ha _ _ _ _ _ St _ fun v G1 H1 g1 rv => ?_
  intro x dx hx hdx hne
  have gn := newSelf (C := C) g1.s hx hdx hne
  have s1 : Sat K G1 H1 [.dat d] [some v] G1 H1 := by
    refine ⟨Grow.refl g1.s, rfl, fun j d' h => ?_, fun _ => [], fun j o h => ?_, fun j k o o' n h => ?_⟩
    · cases j with
      | zero => cases h; exact ⟨v, rfl, rv⟩
      | succ j => cases h
    · cases j with
      | zero => cases h
      | succ j => cases h
    · cases j with
      | zero => cases h
      | succ j => cases h
  have s3 := s1.consNew gn (.me (.ins (a := x) (C := C) (dx := dx) (fs := []) upd_same .nil (by simp))) (fun a ha => by
    rcases List.mem_singleton.mp ha with rfl
    exact ⟨hx, fresh_back g1.s hx⟩)
  refine ⟨G1, H1, _, _, _, s3, hr x, .inl ⟨.non, rfl, fun v' G3 H3 S3 rv' => ?_⟩⟩
  cases rv'
  refine ⟨rfl, ?_⟩
  obtain ⟨v0, T, y1, y2, y3, _⟩ := S3.at (i := 0) rfl
  cases y1
  cases y2 with
  | me y2 => exact q _ T G3 H3 (g1.trans S3.gr) y2 fun b hb => ⟨fresh_back g1.h (y3 b hb).2, (y3 b hb).1⟩
end
/-- what is known between two statements -/
theorem ss_seqJ {K : PySem.W.Frag} {W : WX} {ρ : List Sl} {P : Post} {u w : TS} (J : List Sl → Prop) (h1 : SemS K W u ρ { P with nx := J }) (h2 : ∀ ρ', J ρ' → SemS K W w ρ' P) : SemS K W (tSeq u w) ρ P :=
  ss_seq (ss_mono h1 (fun ρ' h => h2 ρ' h) (fun _ h => h) (fun _ h => h) (fun _ h => h) (fun _ _ _ h => h))
end DL

set_option Elab.async false
set_option linter.all false
set_option maxRecDepth 100000
set_option maxHeartbeats 1000000
/-! DLv: list(d), sorted(d); things put into dicts within one's own; setdefault(k, []).append(x) -/
namespace DL
open PySem PySem.Spec PyProof.Rows L2
open Evl (Ex ex_l ex_t fresh_back)
/-! ### list(d), sorted(d) -/
def uListD : List V → Hp → VK → Prop := fun xs H Q => ∃ (a : Addr) (kvs : List (Key × V)), xs = [.ref a] ∧ Rd H a (.dK kvs) ∧ ∀ p, H p = none → Q (.ref p) (upd H p (.lst (kvs.map fun kv => kV kv.1)))
theorem cu_listD {X : Cx} (hc : X.calm = true) : CallR X (.type "list") uListD := call_listD hc
def uSortD : List V → Hp → VK → Prop := fun xs H Q => ∃ (a : Addr) (kvs : List (Key × V)) (ks : List Str), xs = [.ref a] ∧ Rd H a (.dK kvs) ∧ kvs.map (·.1) = ks.map Sum.inr ∧ ks.length < 64 ∧
    ∀ ys p, ys.Perm ks → sortedS ys = true → H p = none → Q (.ref p) (upd H p (.lst (ys.map V.str)))
theorem cu_sortD {X : Cx} (hc : X.calm = true) : CallR X (.builtin "sorted") uSortD := call_sortedD hc
section
variable {K : PySem.W.Frag} {W : WX} {ρ : List Sl} {te to td ty tv : TE} {u ta : TA} {d : Dat} {i : Nat} {o o' : OD} {wrap : OD → OD} {C : Addr} {S S' : SP} {X : XP} {P : Post}
theorem DRk.keys {G : Hp} : ∀ {vs : List (Key × V)} {ds : List (Key × Dat)}, DRk K G vs ds → vs.map (·.1) = ds.map (·.1)
  | _, _, .nil => rfl
  | _, _, .cons _ r => by rw [List.map_cons, List.map_cons, DRk.keys r]
theorem keys_dat {G : Hp} : ∀ (ks : List Key), DRs K G (ks.map kV) (ks.map kD)
  | [] => .nil
  | k :: ks => .cons (DR.key k) (keys_dat ks)
theorem sn_listD {es : List (Key × Dat)} (h : SemA K u ρ [.dct es]) : SemN K (tCB uListD u) ρ (es.map fun e => kD e.1) := fun G0 B0 σ G H St Q q =>
  h _ _ _ _ _ St _ fun vs G1 H1 g1 rs => by
    cases rs with
    | cons h1 rs =>
      cases rs
      cases h1 with
      | dct a1 r =>
        refine ⟨_, _, rfl, rd_ex g1.s a1, fun l hl => q l _ G1 _ (g1.trans (Grow.newM g1.s hl)) (fresh_back g1.h hl) (fresh_back g1.s hl) upd_same ?_⟩
        have := keys_dat (K := K) (G := G1) (es.map (·.1))
        rw [← DRk.keys r, List.map_map, DRk.keys r, List.map_map] at this
        exact this
theorem rising_pair : ∀ {ys : List Str} {x : Str}, risingS x ys = true → (∀ y ∈ ys, ¬ y.cps.toList < x.cps.toList) ∧ ys.Pairwise fun a b => ¬ b.cps.toList < a.cps.toList
  | [], _, _ => ⟨(fun y h => by cases h), List.Pairwise.nil⟩
  | y :: r, x, h => by
    unfold risingS at h
    rw [Bool.and_eq_true] at h
    obtain ⟨h1, h2⟩ := h
    obtain ⟨a1, a2⟩ := rising_pair h2
    have hxy : ¬ y.cps.toList < x.cps.toList := by
      have h1' : (!decide (y.cps.toList < x.cps.toList)) = true := by rw [← ltCps_eq]; exact h1
      intro hh
      rw [decide_eq_true hh] at h1'
      cases h1'
    refine ⟨fun z hz => ?_, List.pairwise_cons.mpr ⟨fun z hz => a1 z hz, a2⟩⟩
    rcases List.mem_cons.mp hz with rfl | hz
    · exact hxy
    · intro hlt
      have h3 := a1 z hz
      by_cases q : x.cps.toList < y.cps.toList
      · exact h3 (List.lt_trans hlt q)
      · have : x.cps.toList = y.cps.toList := List.le_antisymm (List.not_lt.mp hxy) (List.not_lt.mp q)
        rw [this] at hlt
        exact h3 hlt
theorem sorted_pairwise {ys : List Str} (h : sortedS ys = true) : (ys.map fun y => y.cps.toList).Pairwise fun a b => ¬ b < a := by
  cases ys with
  | nil => exact List.Pairwise.nil
  | cons x r =>
    have := rising_pair (x := x) (ys := r) h
    rw [List.map_cons, List.pairwise_cons]
    refine ⟨fun b hb => ?_, ?_⟩
    · obtain ⟨y, hy, rfl⟩ := List.mem_map.mp hb
      exact this.1 y hy
    · rw [List.pairwise_map]
      exact this.2
/-- sorted(d), the keys of d being texts: the rising row of the same texts -/
theorem sn_sortD {es : List (Key × Dat)} {ks out : List (List Nat)} (h : SemA K u ρ [.dct es]) (hk : es.map (·.1) = ks.map fun t => Sum.inr (strL t)) (h64 : ks.length < 64) (hp : out.Perm ks) (hs : out.Pairwise (· < ·)) : SemN K (tCB uSortD u) ρ (out.map .txt) := fun G0 B0 σ G H St Q q =>
  h _ _ _ _ _ St _ fun vs G1 H1 g1 rs => by
    cases rs with
    | cons h1 rs =>
      cases rs
      cases h1 with
      | dct a1 r =>
        refine ⟨_, _, ks.map strL, rfl, rd_ex g1.s a1, by rw [DRk.keys r, hk, List.map_map]; rfl, by rw [List.length_map]; exact h64, fun ys l pm st hl => ?_⟩
        have e : ys.map (fun y => y.cps.toList) = out := by
          refine sort_one (lt := fun a b : List Nat => a < b) ?_ (sorted_pairwise st) hs
          have := pm.map fun y : Str => y.cps.toList
          rw [List.map_map] at this
          have e2 : ks.map ((fun y : Str => y.cps.toList) ∘ strL) = ks := by
            have e3 : ∀ l : List (List Nat), l.map ((fun y : Str => y.cps.toList) ∘ strL) = l := fun l => by
              induction l with
              | nil => rfl
              | cons x l ih => rw [List.map_cons, ih]; rfl
            exact e3 ks
          rw [e2] at this
          exact this.trans hp.symm
        have ey : ys = out.map strL := by
          rw [← e, List.map_map]
          have e3 : ∀ l : List Str, l.map (strL ∘ fun y : Str => y.cps.toList) = l := fun l => by
            induction l with
            | nil => rfl
            | cons x l ih => rw [List.map_cons, ih]; rfl
          exact (e3 ys).symm
        rw [ey]
        exact q l _ G1 _ (g1.trans (Grow.newM g1.s hl)) (fresh_back g1.h hl) (fresh_back g1.s hl) upd_same (DRs.ofTxts out)
/-! ### one's own things are looked at: what comes of it is a new dict of things that are no objects -/
theorem DRk.scal {G G' : Hp} : ∀ {vs : List (Key × V)} {ds : List (Key × Dat)}, (∀ e ∈ ds, scalD e.2 = true) → DRk K G vs ds → DRk K G' vs ds
  | _, _, _, .nil => .nil
  | _, _, h, .cons a r => .cons (a.scal (h _ (.head _))) (DRk.scal (fun e he => h e (.tail _ he)) r)
theorem sm_peekD {kvs : List (Key × Dat)} (hs : ∀ e ∈ kvs, scalD e.2 = true) (h : SemM K te (ρ.map frzSl) (.pd kvs)) : SemM K te ρ (.pd kvs) := fun G0 B0 σ G H S Q q => by
  obtain ⟨G1, S1, hb⟩ := S.peek
  refine h _ _ _ _ _ S1 _ fun v T G2 H2 g2 rv hT => ?_
  obtain ⟨G3, g3, h3⟩ := hb G2 H2 g2
  cases rv with
  | @pd p vs _ hp r =>
    refine q _ [p] G3 H2 g3 (.pd hp (r.scal hs)) fun a ha => ?_
    rcases List.mem_singleton.mp ha with rfl
    have := hT a (.head _)
    exact ⟨this.1, by rw [h3 a this.1]; exact this.2⟩
/-! ### d[k] = a new thing, d within one's own, named -/
theorem FocP.addK {G0 B0 G H G3 H3 : Hp} {σ : L2.St} {p0 : Addr} {kvs : List (Key × OD)} {k : Key} {v : V} {o : OD} {T : List Addr} (F : FocP K G0 B0 ρ σ i (.ref p0) (.me p0 (.dct kvs)) wrap G H) (g : Grow G H G3 H3) (rv : OR K G3 H3 v o T) (hT : ∀ a ∈ T, H a = none ∧ G3 a = none) (hn : getA kvs k = none) :
    ∃ vs, H3 p0 = some (.dK vs) ∧ vs.length = kvs.length ∧ getA vs k = none ∧ Sat K G0 B0 (ρ.set i (.mt (wrap (.me p0 (.dct (kvs ++ [(k, o)])))))) σ G3 (upd H3 p0 (.dK (putK vs k v))) := by
  obtain ⟨T0, k2, k3, k4⟩ := F
  cases k2 with
  | me k2 =>
    cases k2 with
    | @dct _ vs _ S0 m1 m2 m3 =>
      have m2' : ORk K G3 H3 vs kvs S0 := m2.keep g.g fun a _ u hu => g.h a u hu
      have dj : ∀ b ∈ S0, b ∉ T := fun b hb ht => m2.there b hb (hT b ht).1
      have r' := ORk.snoc (k := k) rv m2' dj
      have ga : G3 p0 = none := g.m p0 (k3 p0 (.head _)).1 (by rw [m1]; simp)
      have na : p0 ∉ S0 ++ T := fun z => by
        rcases List.mem_append.mp z with z | z
        · exact m3 z
        · rw [(hT p0 z).1] at m1; cases m1
      refine ⟨vs, g.h _ _ m1, m2.length, m2.getNone hn, ?_⟩
      rw [putK_putA, putA_new (m2.getNone hn)]
      refine k4 _ G3 _ (p0 :: (S0 ++ T)) ⟨g.g, g.s.mut ga, fun b u hb hu => ?_, fun b z1 z2 _ => g.m b z1 z2, fun b hb => ?_⟩ (.me (.dct upd_same (r'.keep (Evl.Ex.refl _) fun b hb u hu => ?_) na))
      · rw [upd_ne (fun z => hb (by rw [z]; exact .head _))]; exact g.h b u hu
      · rcases List.mem_cons.mp hb with z | z
        · rw [z]; exact ⟨.inl (.head _), ga⟩
        · rcases List.mem_append.mp z with z | z
          · exact ⟨.inl (.tail _ z), g.m b (k3 b (.tail _ z)).1 (m2.there b z)⟩
          · exact ⟨.inr (hT b z).1, (hT b z).2⟩
      · rw [upd_ne (fun z => na (by rw [← z]; exact hb))]; exact hu
theorem ss_dputMF {p0 : Addr} {kvs : List (Key × OD)} {k : Key} {kd : Dat} (hv : SemM K tv ρ o) (fa : FocA K ρ i (.me p0 (.dct kvs)) wrap) (hf : SemF K td ρ i (.me p0 (.dct kvs)) wrap) (hy : Sem K ty ρ kd) (hk : ∀ G v, DR K G v kd → v = kV k) (hz : kvs.length < sizeLine) (hn : getA kvs k = none)
    (p : P.nx (ρ.set i (.mt (wrap (.me p0 (.dct (kvs ++ [(k, o)]))))))) : SemS K W (sDPut td ty tv) ρ P := fun G0 B0 σ G H D S n r b c x => by
  obtain ⟨w, F⟩ := fa _ _ _ _ _ S
  have ew := F.me.1
  subst ew
  refine hv _ _ _ _ _ S _ fun v T G1 H1 g1 rv hT => hf _ _ _ _ _ (S.grow g1) _ fun w2 G2 H2 g2 F2 => hy _ _ _ _ _ ((S.grow g1).grow g2) _ fun y G3 H3 g3 ry => ?_
  have e2 := F2.me.1
  subst e2
  have ey := hk _ _ ry
  subst ey
  have g23 := g2.trans g3
  have rv3 : OR K G3 H3 v o T := rv.keep g23.g fun a _ u hu => g23.h a u hu
  obtain ⟨vs, h1, h2, h3, h4⟩ := F.addK (g1.trans g23) rv3 (fun a ha => ⟨(hT a ha).1, g23.m a (hT a ha).2 (rv.there a ha)⟩) hn
  exact ⟨p0, _, rfl, .inl ⟨vs, k, h1, rfl, by rw [h2]; exact hz, rfl⟩, n _ σ G3 _ p h4⟩
/-- d.setdefault(k, []).append(x), k being there -/
theorem ss_setdApp1 {p0 : Addr} {kvs : List (Key × OD)} {k : Key} {kd : Dat} {ds : List Dat} (hf : SemF K td ρ i (.me p0 (.dct kvs)) wrap) (hy : Sem K ty ρ kd) (hk : ∀ G v, DR K G v kd → v = kV k) (hz : kvs.length < sizeLine) (hg : getA kvs k = some (.pl ds)) (hd : Sem K te ρ d) (hl : ds.length < sizeLine)
    (p : P.nx (ρ.set i (.mt (wrap (.me p0 (.dct (setA kvs k (.pl (ds ++ [d])))))))))  : SemS K W (tDrop (tBM K "list" rAppend (tDSetd td ty (tLst tNil)) (tCons te tNil))) ρ P := fun G0 B0 σ G H D S n r b c x => by
  refine hf _ _ _ _ _ S _ fun w G1 H1 g1 F1 => ?_
  have ew := F1.me.1
  subst ew
  have isd : IsD H1 p0 := by
    obtain ⟨a, vs, w', e, hH, _⟩ := (F1.me.2).key hg
    cases e
    exact .inl ⟨vs, .inl hH⟩
  refine ⟨p0, rfl, isd, hy _ _ _ _ _ (S.grow g1) _ fun y G2 H2 g2 ry => ?_⟩
  have ey := hk _ _ ry
  subst ey
  refine (sn_lst (K := K) (ρ := ρ) sa_nil (by decide)) _ _ _ _ _ ((S.grow g1).grow g2) _ fun z vz G3 H3 g3 hz0 hz1 hz2 hz3 => ?_
  have F3 := (F1.grow g2).grow g3
  obtain ⟨a, vs, w', e, hH, hget, F4⟩ := (F3.me.2).key hg
  cases e
  have hlen : vs.length = kvs.length := by
    obtain ⟨T0, k2, _⟩ := F3.me.2
    cases k2 with
    | dct m1 m2 _ =>
      rw [m1] at hH
      cases hH
      exact m2.length
  refine ⟨vs, k, hH, rfl, by rw [hlen]; exact hz, fun v hv => ?_, fun hn => ?_⟩
  · rw [valV_getA, hget] at hv
    cases hv
    obtain ⟨pl, ws, e, h5, h6⟩ := F4.isL
    subst e
    refine ⟨.inl ⟨rfl, _, .inl (.inl h5)⟩, hd _ _ _ _ _ (((S.grow g1).grow g2).grow g3) _ fun y G4 H4 g4 ry4 => ?_⟩
    refine ⟨pl, ws, y, rfl, rfl, g4.h _ _ h5, by rw [h6.length]; exact hl, n _ σ G4 _ p ?_⟩
    exact (F4.grow g4).putL g4.s ((h6.mono g4.g).append (.cons ry4 .nil))
  · rw [valV_getA, hget] at hn
    cases hn
/-- d.setdefault(k, []).append(x), k being new -/
theorem ss_setdApp0 {p0 : Addr} {kvs : List (Key × OD)} {k : Key} {kd : Dat} {wrap2 : OD → OD} (hf : SemF K td ρ i (.me p0 (.dct kvs)) wrap) (hy : Sem K ty ρ kd) (hk : ∀ G v, DR K G v kd → v = kV k) (hz : kvs.length < sizeLine) (hg : getA kvs k = none)
    (fa : FocA K (ρ.set i (.mt (wrap (.me p0 (.dct (kvs ++ [(k, .pl [])]))))) ) i (.me p0 (.dct (kvs ++ [(k, .pl [])]))) wrap2) (hd : Sem K te (ρ.set i (.mt (wrap (.me p0 (.dct (kvs ++ [(k, .pl [])])))))) d)
    (p : P.nx ((ρ.set i (.mt (wrap (.me p0 (.dct (kvs ++ [(k, .pl [])])))))).set i (.mt (wrap2 (.me p0 (.dct (setA (kvs ++ [(k, .pl [])]) k (.pl [d])))))))) : SemS K W (tDrop (tBM K "list" rAppend (tDSetd td ty (tLst tNil)) (tCons te tNil))) ρ P := fun G0 B0 σ G H D S n r b c x => by
  refine hf _ _ _ _ _ S _ fun w G1 H1 g1 F1 => ?_
  have ew := F1.me.1
  subst ew
  have isd : IsD H1 p0 := by
    obtain ⟨T0, k2, _⟩ := F1.me.2
    cases k2 with
    | dct m1 _ _ => exact .inl ⟨_, .inl m1⟩
  refine ⟨p0, rfl, isd, hy _ _ _ _ _ (S.grow g1) _ fun y G2 H2 g2 ry => ?_⟩
  have ey := hk _ _ ry
  subst ey
  refine (sn_lst (K := K) (ρ := ρ) sa_nil (by decide)) _ _ _ _ _ ((S.grow g1).grow g2) _ fun z vz G3 H3 g3 hz0 hz1 hz2 hz3 => ?_
  have F2 := F1.grow g2
  obtain ⟨vs, h1, h2, h3, h4⟩ := F2.addK (k := k) g3 (.pl (a := z) (ds := []) hz2 hz3) (fun a ha => by
    rcases List.mem_singleton.mp ha with rfl
    exact ⟨hz0, hz1⟩) hg
  refine ⟨vs, k, h1, rfl, by rw [h2]; exact hz, fun v hv => ?_, fun _ => ?_⟩
  · rw [valV_getA, h3] at hv
    cases hv
  · have gk : getA (kvs ++ [(k, OD.pl [])]) k = some (.pl []) := by
      have : ∀ l : List (Key × OD), getA l k = none → getA (l ++ [(k, OD.pl [])]) k = some (.pl []) := fun l => by
        induction l with
        | nil => intro _; show (if k = k then _ else _) = _; rw [if_pos rfl]
        | cons e l ih =>
          intro hh
          obtain ⟨j, x⟩ := e
          show (if j = k then some x else getA (l ++ [(k, OD.pl [])]) k) = _
          have hh : (if j = k then some x else getA l k) = none := hh
          by_cases q : j = k
          · rw [if_pos q] at hh; cases hh
          · rw [if_neg q] at hh ⊢; exact ih hh
      exact this kvs hg
    obtain ⟨w5, F5⟩ := fa _ _ _ _ _ h4
    have e5 := F5.me.1
    subst e5
    obtain ⟨a6, vs6, w6, e6, hH6, hget6, F6⟩ := (F5.me.2).key gk
    cases e6
    rw [upd_same] at hH6
    cases hH6
    rw [putK_putA] at hget6
    have ez : w6 = .ref z := by
      rw [putA_new h3] at hget6
      have : ∀ l : List (Key × V), getA l k = none → getA (l ++ [(k, V.ref z)]) k = some (.ref z) := fun l => by
        induction l with
        | nil => intro _; show (if k = k then _ else _) = _; rw [if_pos rfl]
        | cons e l ih =>
          intro hh
          obtain ⟨j, x⟩ := e
          show (if j = k then some x else getA (l ++ [(k, V.ref z)]) k) = _
          have hh : (if j = k then some x else getA l k) = none := hh
          by_cases q : j = k
          · rw [if_pos q] at hh; cases hh
          · rw [if_neg q] at hh ⊢; exact ih hh
      rw [this vs h3] at hget6
      exact (Option.some.inj hget6).symm
    subst ez
    obtain ⟨pl, ws, e, h7, h8⟩ := F6.isL
    cases e
    refine ⟨.inl ⟨rfl, _, .inl (.inl h7)⟩, hd _ _ _ _ _ h4 _ fun y G4 H4 g4 ry4 => ?_⟩
    cases h8
    refine ⟨z, [], y, rfl, rfl, g4.h _ _ h7, by decide, n _ σ G4 _ p ?_⟩
    exact (F6.grow g4).putL g4.s (.cons ry4 .nil)
/-! ### d[k] = a new thing, k being there already, d a name -/
theorem ORk.putAt {G H : Hp} {k : Key} {v : V} {o : OD} {T : List Addr} (h : OR K G H v o T) : ∀ {vs : List (Key × V)} {os : List (Key × OD)} {S : List Addr}, ORk K G H vs os S → (os.map Prod.fst).Nodup → (∀ a ∈ S, a ∉ T) → (getA os k).isSome = true →
    ∃ S', ORk K G H (vs.map fun kv => if kv.1 = k then (kv.1, v) else kv) (setA os k o) S' ∧ ∀ a ∈ S', a ∈ S ∨ a ∈ T
  | _, _, _, .nil, _, _, e => by cases e
  | _, _, _, @ORk.cons _ _ _ x v0 vs o0 os S1 S2 h0 r dj, nd, hd, e => by
    have nd : (x :: os.map Prod.fst).Nodup := nd
    by_cases q : x = k
    · have same : (vs.map fun kv => if kv.1 = k then (kv.1, v) else kv) = vs := by
        rw [List.map_congr_left (g := id) fun kv hkv => ?_, List.map_id]
        have : kv.1 ≠ k := fun z => (List.nodup_cons.mp nd).1 (by
          have hk : ∀ {vs : List (Key × V)} {os : List (Key × OD)} {S : List Addr}, ORk K G H vs os S → vs.map Prod.fst = os.map Prod.fst := fun {vs os S} r => by
            induction vs generalizing os S with
            | nil => cases r; rfl
            | cons a l ih =>
              cases r with
              | cons h1 r1 _ => rw [List.map_cons, List.map_cons, ih r1]
          rw [q, ← z, ← hk r]
          exact List.mem_map.mpr ⟨kv, hkv, rfl⟩)
        rw [if_neg this]; rfl
      refine ⟨T ++ S2, ?_, fun a ha => ?_⟩
      · show ORk K G H ((if x = k then (x, v) else (x, v0)) :: vs.map fun kv => if kv.1 = k then (kv.1, v) else kv) (if x = k then (x, o) :: os else (x, o0) :: setA os k o) (T ++ S2)
        rw [if_pos q, if_pos q, same]
        exact .cons h r fun a ha hb => hd a (List.mem_append_right _ hb) ha
      · rcases List.mem_append.mp ha with z | z
        · exact .inr z
        · exact .inl (List.mem_append_right _ z)
    · have e : (if x = k then some o0 else getA os k).isSome = true := e
      rw [if_neg q] at e
      obtain ⟨S', k1, k2⟩ := ORk.putAt h r (List.nodup_cons.mp nd).2 (fun a ha => hd a (List.mem_append_right _ ha)) e
      refine ⟨S1 ++ S', ?_, fun a ha => ?_⟩
      · show ORk K G H ((if x = k then (x, v) else (x, v0)) :: vs.map fun kv => if kv.1 = k then (kv.1, v) else kv) (if x = k then (x, o) :: os else (x, o0) :: setA os k o) (S1 ++ S')
        rw [if_neg q, if_neg q]
        refine .cons h0 k1 fun a ha hb => ?_
        rcases k2 a hb with z | z
        · exact dj a ha z
        · exact hd a (List.mem_append_left _ ha) z
      · rcases List.mem_append.mp ha with z | z
        · exact .inl (List.mem_append_left _ z)
        · rcases k2 a z with y | y
          · exact .inl (List.mem_append_right _ y)
          · exact .inr y
theorem ORk.hasV {G H : Hp} {k : Key} : ∀ {vs : List (Key × V)} {os : List (Key × OD)} {S : List Addr}, ORk K G H vs os S → (getA vs k).isSome = (getA os k).isSome
  | _, _, _, .nil => rfl
  | _, _, _, @ORk.cons _ _ _ x v0 vs o0 os S1 S2 h0 r dj => by
    show (if x = k then some v0 else getA vs k).isSome = (if x = k then some o0 else getA os k).isSome
    by_cases q : x = k
    · rw [if_pos q, if_pos q]; rfl
    · rw [if_neg q, if_neg q]; exact ORk.hasV r
theorem ss_dputR {kvs : List (Key × OD)} {k : Key} {kd : Dat} (hv : SemM K tv ρ o) (hi : ρ[i]? = some (.mt (.dct kvs))) (hy : Sem K ty ρ kd) (hk : ∀ G v, DR K G v kd → v = kV k) (hz : kvs.length < sizeLine) (nd : (kvs.map Prod.fst).Nodup) (hn : (getA kvs k).isSome = true) (p : P.nx (ρ.set i (.mt (.dct (setA kvs k o))))) : SemS K W (sDPut (tVar i) ty tv) ρ P := fun G0 B0 σ G H D S n r b c x =>
  hv _ _ _ _ _ S _ fun v T G1 H1 g1 rv hT => by
    have S1 := S.grow g1
    obtain ⟨w, T0, k1, k2, k3, k4⟩ := S.at hi
    refine ⟨w, k1, hy _ _ _ _ _ S1 _ fun y G3 H3 g3 ry => ?_⟩
    have ey := hk _ _ ry
    subst ey
    cases k2 with
    | @dct a vs _ S0 m1 m2 m3 =>
      have g13 := g1.trans g3
      have hT' : ∀ a ∈ T, H1 a ≠ none := rv.there
      have rv3 : OR K G3 H3 v o T := rv.keep g3.g fun a _ u hu => g3.h a u hu
      have m2' : ORk K G3 H3 vs kvs S0 := m2.keep g13.g fun a _ u hu => g13.h a u hu
      have dj : ∀ b ∈ S0, b ∉ T := fun b hb ht => m2.there b hb (hT b ht).1
      obtain ⟨S', r', hS'⟩ := ORk.putAt (k := k) rv3 m2' nd dj hn
      have ga : G3 a = none := g13.m a (k3 a (.head _)).1 (by rw [m1]; simp)
      have na : a ∉ S' := fun z => by
        rcases hS' a z with z | z
        · exact m3 z
        · rw [(hT a z).1] at m1; cases m1
      refine ⟨a, _, rfl, .inl ⟨vs, k, g13.h _ _ m1, rfl, by rw [m2.length]; exact hz, rfl⟩, n _ σ G3 _ p ?_⟩
      have ep : putK vs k v = vs.map fun kv => if kv.1 = k then (kv.1, v) else kv := by
        rw [putK_putA]
        unfold putA
        rw [if_pos (by rw [m2.hasV]; exact hn)]
      rw [ep]
      refine k4 _ G3 _ (a :: S') ⟨g13.g, g3.s.mut ga, fun b u hb hu => ?_, fun b z1 z2 _ => g13.m b z1 z2, fun b hb => ?_⟩ (.dct upd_same (r'.keep (Evl.Ex.refl _) fun b hb u hu => ?_) na)
      · rw [upd_ne (fun z => hb (by rw [z]; exact .head _))]; exact g13.h b u hu
      · rcases List.mem_cons.mp hb with z | z
        · rw [z]; exact ⟨.inl (.head _), ga⟩
        · rcases hS' b z with z | z
          · exact ⟨.inl (.tail _ z), g13.m b (k3 b (.tail _ z)).1 (m2.there b z)⟩
          · exact ⟨.inr (hT b z).1, g3.m b (hT b z).2 (hT' b z)⟩
      · rw [upd_ne (fun z => na (by rw [← z]; exact hb))]; exact hu
end
end DL

set_option Elab.async false
set_option linter.all false
set_option maxRecDepth 100000
namespace K32
open PySem PySem.Spec PyProof.Rows L2 DL
local macro_rules | `(tactic| walk_at "kitb") => `(tactic| first | exact kb_NoneType_str | exact kb_NoneType_bool | exact kb_NoneType_int | exact kb_NoneType_list | exact kb_NoneType_tuple | exact kb_NoneType_dict | exact kb_bool_str | exact kb_bool_bool | exact kb_bool_int | exact kb_bool_list | exact kb_bool_tuple | exact kb_bool_dict | exact kb_int_str | exact kb_int_bool | exact kb_int_int | exact kb_int_list | exact kb_int_tuple | exact kb_int_dict | exact kb_str_str | exact kb_str_bool | exact kb_str_int | exact kb_str_list | exact kb_str_tuple | exact kb_str_dict | exact kb_list_str | exact kb_list_bool | exact kb_list_int | exact kb_list_list | exact kb_list_tuple | exact kb_list_dict | exact kb_tuple_str | exact kb_tuple_bool | exact kb_tuple_int | exact kb_tuple_list | exact kb_tuple_tuple | exact kb_tuple_dict | exact kb_dict_str | exact kb_dict_bool | exact kb_dict_int | exact kb_dict_list | exact kb_dict_tuple | exact kb_dict_dict)
/-! the words that run a reading: "sem" an expression, "sems" arguments, "ops" an operation, "side" what is left -/
local macro_rules | `(tactic| walk_at "side") => `(tactic| first | assumption | decide | omega | (unfold sizeLine; omega) | (unfold sizeLine; simp only [List.length_map, List.length_append, List.length_cons, List.length_nil]; omega))
local macro_rules | `(tactic| walk_at "ops") => `(tactic| first
  | exact os_addI | exact os_sub | exact os_lt | exact os_le | exact os_gt | exact os_ge | exact os_eqI | exact os_neI | exact os_eqT | exact os_neT | exact os_eqB | exact os_neB
  | exact os_neNilS | exact os_eqNil | exact os_neNil | exact os_neScr | exact os_inC | exact os_notinC | exact os_inTT | exact os_in2 | exact os_in3 | exact os_notin2 | exact os_notinTT | exact os_inTL | exact os_notinTL | exact os_isN | exact os_isnotN | exact os_isB | exact os_isnotB
  | (apply os_mod; walk_at "side") | (apply os_div; walk_at "side") | (apply os_mul; walk_at "mul") | (apply os_addT; walk_at "side") | (apply os_addL; walk_at "side") | (apply os_addU; walk_at "side")
  | (apply os_ixL; walk_at "ix") | (apply os_ixU; walk_at "ix") | (apply os_ixT; (· walk_at "ix"); (· walk_at "side")) | (apply os_ixS; walk_at "ix"))
local macro_rules | `(tactic| walk_at "mul") => `(tactic| first | exact Or.inr ⟨by decide, by decide⟩ | exact Or.inl ⟨by decide, by decide⟩ | exact Or.inl ⟨by omega, by omega⟩ | exact Or.inr ⟨by omega, by omega⟩)
local macro_rules | `(tactic| walk_at "ix") => `(tactic| first | assumption | rfl)
local macro_rules | `(tactic| walk_at "calls") => `(tactic| first
  | (apply cs_lenT; walk_at "side") | exact cs_lenL | exact cs_lenU | exact cs_lenQ | exact cs_lenS | exact cs_sum | exact cs_allM | exact cs_all | exact cs_max2 | exact cs_min | (apply cs_tuple; rfl) | (apply cs_isiU; (· rfl); (· walk_at "kitb")) | exact cs_strT | (apply cs_strI; walk_at "side"))
local macro_rules | `(tactic| walk_at "sls") => `(tactic| first | (apply ss_txt; walk_at "side") | exact ss_lst | exact ss_tup)
local macro_rules | `(tactic| walk_at "part") => `(tactic| first | exact so_none | (apply so_some; walk_at "sem"))
local macro_rules | `(tactic| walk_at "sems") => `(tactic| first | exact sa_nil | (apply sa_cons; (· walk_at "sem"); (· walk_at "sems")))
local macro_rules | `(tactic| walk_at "iter") => `(tactic| first | (apply si_u; (· walk_at "sem"); (· rfl)) | (apply si_range1Z; (· walk_at "sems"); (· walk_at "side"); (· walk_at "side")))
local macro_rules | `(tactic| walk_at "mts") => `(tactic| first | (apply ms_strip; walk_at "side") | exact ms_starts3 | exact ms_find3 | (apply ms_joinM; walk_at "side") | (apply ms_join; walk_at "side") | (apply ms_split; (· walk_at "side"); (· walk_at "side")))
local macro_rules | `(tactic| walk_at "test") => `(tactic| first
  | exact st_yes | (apply st_and; (· walk_at "test"); (· (intro; walk_at "test"))) | (apply st_or; (· walk_at "test"); (· (intro; walk_at "test"))) | (apply st_not; walk_at "test")
  | (apply st_test; walk_at "sem") | (apply st_bl; walk_at "sem") | (apply st_tru; (· walk_at "sem"); (· first | exact trivial | walk_at "side")))
local macro_rules | `(tactic| walk_at "sem") => `(tactic| first
  | exact s_int | exact s_ty | exact s_str | exact s_bl | exact s_non | (apply s_var; rfl) | (apply s_c; assumption)
  | (apply s_op; (· walk_at "sem"); (· walk_at "sem"); (· walk_at "ops"))
  | (apply s_un; (· walk_at "sem"); (· exact us_neg))
  | (apply s_chain; (· walk_at "sem"); (· walk_at "sem"); (· walk_at "ops"); (· (intro; walk_at "sem")); (· (intro; walk_at "ops")))
  | (apply s_andB; (· walk_at "sem"); (· (intro; walk_at "sem")))
  | (apply s_orB; (· walk_at "sem"); (· (intro; walk_at "sem")))
  | (apply s_notB; walk_at "sem")
  | (apply s_if; (· walk_at "test"); (· (intro; walk_at "sem")); (· (intro; walk_at "sem")))
  | (apply s_tup; (· walk_at "sems"); (· walk_at "side"))
  | (apply s_lst; (· walk_at "sems"); (· walk_at "side"))
  | (apply s_cb; (· walk_at "sems"); (· walk_at "calls"))
  | (apply s_sl; (· walk_at "sem"); (· walk_at "part"); (· walk_at "part"); (· walk_at "sls"))
  | (apply s_m1; (· walk_at "sem"); (· walk_at "sem"); (· walk_at "mts"))
  | (apply s_call; (· walk_at "sems"); (· walk_at "fn")) | (apply s_callO0; (· walk_at "sems"); (· walk_at "fn")) | (apply s_callO; (· walk_at "sems"); (· walk_at "fn"))
  | (apply s_bmT; (· walk_at "sem"); (· walk_at "sems"); (· walk_at "mts"))
  | exact s_dnew
  | (apply s_ofN; apply sn_lcM; (· walk_at "iter"); (· walk_at "side"); (· (intro x hx; walk_at "sem")))
  | (apply s_ofN; apply sn_lcF; (· walk_at "iter"); (· walk_at "side"); (· (intro x hx; walk_at "test")); (· (intro x hx _; walk_at "sem"))))
def topS (i : Nat) : Stmt := PySem.Challenge.pw_readwright_k32_what_rows_begin_with.main.body.getD i (.Pass ⟨0, 0, 0, 0⟩)
/-! is_of: slots 0 text, 1 signs, 2 most, 3 sign -/
abbrev s_is_of : Stmt := topS 6
theorem sc_is_of : FnScope ["text", "signs", "most", "sign"] ["text", "signs", "most"] (defScope s_is_of) := ⟨rfl, rfl, rfl, by decide +kernel, rfl, by decide +kernel, by decide +kernel⟩
def T_is_of (K : PySem.W.Frag) : TS :=
  (tRet (tAndV (tChain uLe uLe (tC (.int 1)) (tCB (uLen K) (tCons (tVar 0) tNil)) (tVar 2)) (tCB (rAll K) (tCons (tLc (iU K (tVar 0)) (gName 3) tYes (tOp (uIn K) (tVar 3) (tVar 1)) [3]) tNil))))
theorem p_is_of {P : Program} {w : World} {K : PySem.W.Frag} {mg : Str → Option Value} {base : Heap} {f : Addr} {k : Nat} (mz_len : mg "len" = none) (mz_all : mg "all" = none) (cdv : Value) (A : Around) (outer : List Env) (s : Shared) (H : Hp) (E : XK)
    (hr : Room k (A.deeper (envOfC "is_of" (defScope s_is_of) s.heap.objs.size f cdv))) :
    PSs (cxOf CX0 P w K mg base ["text", "signs", "most", "sign"] "is_of" (defScope s_is_of) f cdv A outer s H E).nox (defBody s_is_of) (T_is_of K) :=
  (pss_one (ps_ret (pe_and (pe_chain ou_le ou_le pe_int (pe_callB (cu_len rfl) (by rfl) mz_len (by decide +kernel) (pa_cons (pv 0) pa_nil)) (pv 2)) (pe_one (pe_callB (cu_all rfl rfl) (by rfl) mz_all (by decide +kernel) (pa_cons (pe_lc (own := [("sign", 3)]) (g := (gName 3)) (tt := tYes) (te := (tOp (uIn K) (tVar 3) (tVar 1))) rfl sc_is_of.nd (pi_u rfl (pv 0)) (blkOk_by (own := [("sign", 3)]) (N := ["text", "signs", "most", "sign"]) (sc := defScope s_is_of) (by decide +kernel)) (fun _ _ _ _ _ => (pg_name (i := 3) sc_is_of.nd rfl (by first | exact Or.inl rfl | exact Or.inr rfl))) (fun _ _ _ _ _ => pts_nil) (fun _ _ _ _ _ => (pe_cmpR (ou_in rfl (room65 hr)) (pv 3) (pv 1) (by rfl)))) pa_nil))))))
/-! is_fixed: slots 0 thing -/
abbrev s_is_fixed : Stmt := topS 7
theorem sc_is_fixed : FnScope ["thing"] ["thing"] (defScope s_is_fixed) := ⟨rfl, rfl, rfl, by decide +kernel, rfl, by decide +kernel, by decide +kernel⟩
def T_is_fixed (K : PySem.W.Frag) (sp_is_of : Sp) (g_LETTERS : V) (g_MOST_LETTERS : V) (g_SIGNS : V) (g_MOST_SIGNS : V) : TS :=
  (tRet (tAndV (tCB (uIsi K) (tCons (tVar 0) (tCons (tC (.ty "str")) tNil))) (tOrV (tCall sp_is_of [] E0 (tCons (tVar 0) (tCons (tC g_LETTERS) (tCons (tC g_MOST_LETTERS) tNil)))) (tCall sp_is_of [] E0 (tCons (tVar 0) (tCons (tC g_SIGNS) (tCons (tC g_MOST_SIGNS) tNil)))))))
theorem p_is_fixed {P : Program} {w : World} {K : PySem.W.Frag} {mg : Str → Option Value} {base : Heap} {f : Addr} {k : Nat} {sp_is_of : Sp} (gd_is_of : GD P w K mg base k "is_of" ["text", "signs", "most"] sp_is_of) {g_LETTERS : V} {u_LETTERS : Value} (mg_LETTERS : mg "LETTERS" = some u_LETTERS) (rv_LETTERS : RelV g_LETTERS u_LETTERS) {g_MOST_LETTERS : V} {u_MOST_LETTERS : Value} (mg_MOST_LETTERS : mg "MOST_LETTERS" = some u_MOST_LETTERS) (rv_MOST_LETTERS : RelV g_MOST_LETTERS u_MOST_LETTERS) {g_SIGNS : V} {u_SIGNS : Value} (mg_SIGNS : mg "SIGNS" = some u_SIGNS) (rv_SIGNS : RelV g_SIGNS u_SIGNS) {g_MOST_SIGNS : V} {u_MOST_SIGNS : Value} (mg_MOST_SIGNS : mg "MOST_SIGNS" = some u_MOST_SIGNS) (rv_MOST_SIGNS : RelV g_MOST_SIGNS u_MOST_SIGNS) (mz_isinstance : mg "isinstance" = none) (mz_str : mg "str" = none) (cdv : Value) (A : Around) (outer : List Env) (s : Shared) (H : Hp) (E : XK)
    (hr : Room k (A.deeper (envOfC "is_fixed" (defScope s_is_fixed) s.heap.objs.size f cdv))) :
    PSs (cxOf CX0 P w K mg base ["thing"] "is_fixed" (defScope s_is_fixed) f cdv A outer s H E).nox (defBody s_is_fixed) (T_is_fixed K sp_is_of g_LETTERS g_MOST_LETTERS g_SIGNS g_MOST_SIGNS) :=
  (pss_one (ps_ret (pe_and (pe_callB (cu_isiU rfl) (by rfl) mz_isinstance (by decide +kernel) (pa_cons (pv 0) (pa_cons (pe_bltn (v := .ty "str") (by rfl) mz_str (by decide +kernel) rfl) pa_nil))) (pe_one (pe_or (pe_gd gd_is_of hr (by rfl) (pa_cons (pv 0) (pa_cons (pe_glob (by rfl) mg_LETTERS rv_LETTERS) (pa_cons (pe_glob (by rfl) mg_MOST_LETTERS rv_MOST_LETTERS) pa_nil)))) (pe_one (pe_gd gd_is_of hr (by rfl) (pa_cons (pv 0) (pa_cons (pe_glob (by rfl) mg_SIGNS rv_SIGNS) (pa_cons (pe_glob (by rfl) mg_MOST_SIGNS rv_MOST_SIGNS) pa_nil))))))))))
/-! is_kind: slots 0 thing -/
abbrev s_is_kind : Stmt := topS 8
theorem sc_is_kind : FnScope ["thing"] ["thing"] (defScope s_is_kind) := ⟨rfl, rfl, rfl, by decide +kernel, rfl, by decide +kernel, by decide +kernel⟩
def T_is_kind (K : PySem.W.Frag) (sp_is_fixed : Sp) (g_OPEN : V) : TS :=
  (tSeq (tIfS (tNot (tTru K (tCB (uIsi K) (tCons (tVar 0) (tCons (tC (.ty "str")) tNil))))) (tRet (tC (.bl false))) tNext)
  (tRet (tOrV (tOp (uIn K) (tVar 0) (tC g_OPEN)) (tAndV (tOp (uEq K) (tSl (uSl K) (tVar 0) tNoPart (tPart (tC (.int 1)))) (tC (.str (Str.ofString "'")))) (tCall sp_is_fixed [] E0 (tCons (tSl (uSl K) (tVar 0) (tPart (tC (.int 1))) tNoPart) tNil))))))
theorem p_is_kind {P : Program} {w : World} {K : PySem.W.Frag} {mg : Str → Option Value} {base : Heap} {f : Addr} {k : Nat} {sp_is_fixed : Sp} (gd_is_fixed : GD P w K mg base k "is_fixed" ["thing"] sp_is_fixed) {g_OPEN : V} {u_OPEN : Value} (mg_OPEN : mg "OPEN" = some u_OPEN) (rv_OPEN : RelV g_OPEN u_OPEN) (mz_isinstance : mg "isinstance" = none) (mz_str : mg "str" = none) (cdv : Value) (A : Around) (outer : List Env) (s : Shared) (H : Hp) (E : XK)
    (hr : Room k (A.deeper (envOfC "is_kind" (defScope s_is_kind) s.heap.objs.size f cdv))) :
    PSs (cxOf CX0 P w K mg base ["thing"] "is_kind" (defScope s_is_kind) f cdv A outer s H E).nox (defBody s_is_kind) (T_is_kind K sp_is_fixed g_OPEN) :=
  (pss_cons (ps_if (pt_not (pt_any rfl (pe_callB (cu_isiU rfl) (by rfl) mz_isinstance (by decide +kernel) (pa_cons (pv 0) (pa_cons (pe_bltn (v := .ty "str") (by rfl) mz_str (by decide +kernel) rfl) pa_nil))))) (pss_one (ps_ret pe_bl)) pss_nil)
  (pss_one (ps_ret (pe_or (pe_cmpR (ou_in rfl (room65 hr)) (pv 0) (pe_glob (by rfl) mg_OPEN rv_OPEN) (by rfl)) (pe_one (pe_and (pe_cmpR (ou_eq rfl (room64 hr)) (pe_slice (ou_sl rfl) (pv 0) po_none (po_some pe_int)) pe_str (nomark _)) (pe_one (pe_gd gd_is_fixed hr (by rfl) (pa_cons (pe_slice (ou_sl rfl) (pv 0) (po_some pe_int) po_none) pa_nil)))))))))
/-! _law_cell: slots 0 _law_script, 1 _law_k, 2 _law_cell_here, 3 _law_more -/
abbrev s__law_cell : Stmt := topS 12
theorem sc__law_cell : FnScope ["_law_script", "_law_k", "_law_cell_here", "_law_more"] ["_law_script", "_law_k"] (defScope s__law_cell) := ⟨rfl, rfl, rfl, by decide +kernel, rfl, by decide +kernel, by decide +kernel⟩
def T__law_cell (K : PySem.W.Frag) : TS :=
  (tSeq (tAsg (tOp (uAdd K) (tOp uMul (tC (.int 7919)) (tVar 1)) (tC (.int 11))) (gName 2))
  (tSeq (tIfS (tTest (tOp (uNeL K) (tVar 0) (tLst tNil))) (tSeq (tAsg (tOp (uAdd K) (tOp uMul (tOp (rIx K) (tVar 0) (tOp uMod (tVar 1) (tCB (uLen K) (tCons (tVar 0) tNil)))) (tC (.int 48271))) (tOp uMul (tC (.int 104729)) (tVar 1))) (gName 2))
  (tAsg (tOp (uAdd K) (tVar 2) (tOp uMul (tOp uDiv (tVar 1) (tCB (uLen K) (tCons (tVar 0) tNil))) (tC (.int 7919)))) (gName 2))) tNext)
  (tSeq (tAsg (tOp uMod (tVar 2) (tC (.int 2147483647))) (gName 3))
  (tSeq (tAsg (tOp uMod (tOp uMul (tVar 3) (tVar 3)) (tC (.int 2147483629))) (gName 3))
  (tRet (tOp uMod (tOp (uAdd K) (tOp (uAdd K) (tOp uMul (tVar 3) (tVar 3)) (tOp uMul (tC (.int 69621)) (tVar 3))) (tVar 1)) (tC (.int 2147483587))))))))
theorem p__law_cell {P : Program} {w : World} {K : PySem.W.Frag} {mg : Str → Option Value} {base : Heap} {f : Addr} {k : Nat} (mz_len : mg "len" = none) (cdv : Value) (A : Around) (outer : List Env) (s : Shared) (H : Hp) (E : XK)
    (hr : Room k (A.deeper (envOfC "_law_cell" (defScope s__law_cell) s.heap.objs.size f cdv))) :
    PSs (cxOf CX0 P w K mg base ["_law_script", "_law_k", "_law_cell_here", "_law_more"] "_law_cell" (defScope s__law_cell) f cdv A outer s H E).nox (defBody s__law_cell) (T__law_cell K) :=
  (pss_cons (ps_set (i := 2) sc__law_cell.nd rfl (Or.inl rfl) (pe_op (ou_add rfl) (pe_op ou_mul pe_int (pv 1)) pe_int))
  (pss_cons (ps_if (pt_cmpR (ou_neL rfl (room64 hr)) (pv 0) (pe_lst pa_nil) (nomark _)) (pss_cons (ps_set (i := 2) sc__law_cell.nd rfl (Or.inl rfl) (pe_op (ou_add rfl) (pe_op ou_mul (pe_ix (ou_ix rfl) (pv 0) (pe_op ou_mod (pv 1) (pe_callB (cu_len rfl) (by rfl) mz_len (by decide +kernel) (pa_cons (pv 0) pa_nil))) (fun _ _ => rfl)) pe_int) (pe_op ou_mul pe_int (pv 1))))
  (pss_one (ps_set (i := 2) sc__law_cell.nd rfl (Or.inl rfl) (pe_op (ou_add rfl) (pv 2) (pe_op ou_mul (pe_op ou_div (pv 1) (pe_callB (cu_len rfl) (by rfl) mz_len (by decide +kernel) (pa_cons (pv 0) pa_nil))) pe_int))))) pss_nil)
  (pss_cons (ps_set (i := 3) sc__law_cell.nd rfl (Or.inl rfl) (pe_op ou_mod (pv 2) pe_int))
  (pss_cons (ps_set (i := 3) sc__law_cell.nd rfl (Or.inl rfl) (pe_op ou_mod (pe_op ou_mul (pv 3) (pv 3)) pe_int))
  (pss_one (ps_ret (pe_op ou_mod (pe_op (ou_add rfl) (pe_op (ou_add rfl) (pe_op ou_mul (pv 3) (pv 3)) (pe_op ou_mul pe_int (pv 3))) (pv 1)) pe_int)))))))
/-! _law_kinds: slots  -/
abbrev s__law_kinds : Stmt := topS 13
theorem sc__law_kinds : FnScope [] [] (defScope s__law_kinds) := ⟨rfl, rfl, rfl, by decide +kernel, rfl, by decide +kernel, by decide +kernel⟩
def T__law_kinds (K : PySem.W.Frag) : TS :=
  (tRet (tLst (tCons (tC (.str (Str.ofString "'x"))) (tCons (tC (.str (Str.ofString "'y"))) (tCons (tC (.str (Str.ofString "'z"))) (tCons (tC (.str (Str.ofString "NAME"))) (tCons (tC (.str (Str.ofString "'w"))) (tCons (tC (.str (Str.ofString "NUMBER"))) (tCons (tC (.str (Str.ofString "'("))) (tCons (tC (.str (Str.ofString "')"))) tNil))))))))))
theorem p__law_kinds {P : Program} {w : World} {K : PySem.W.Frag} {mg : Str → Option Value} {base : Heap} {f : Addr} {k : Nat} (cdv : Value) (A : Around) (outer : List Env) (s : Shared) (H : Hp) (E : XK)
    (hr : Room k (A.deeper (envOfC "_law_kinds" (defScope s__law_kinds) s.heap.objs.size f cdv))) :
    PSs (cxOf CX0 P w K mg base [] "_law_kinds" (defScope s__law_kinds) f cdv A outer s H E).nox (defBody s__law_kinds) (T__law_kinds K) :=
  (pss_one (ps_ret (pe_lst (pa_cons pe_str (pa_cons pe_str (pa_cons pe_str (pa_cons pe_str (pa_cons pe_str (pa_cons pe_str (pa_cons pe_str (pa_cons pe_str pa_nil)))))))))))
/-! _law_begun_rules: slots 0 _law_script, 1 _law_first, 2 _law_many, 3 _law_rules_here, 4 _law_p, 5 _law_part, 6 _law_count, 7 _law_turn, 8 _law_r, 9 _law_row, 10 _law_j, 11 _law_more -/
abbrev s__law_begun_rules : Stmt := topS 14
theorem sc__law_begun_rules : FnScope ["_law_script", "_law_first", "_law_many", "_law_rules_here", "_law_p", "_law_part", "_law_count", "_law_turn", "_law_r", "_law_row", "_law_j", "_law_more"] ["_law_script", "_law_first"] (defScope s__law_begun_rules) := ⟨rfl, rfl, rfl, by decide +kernel, rfl, by decide +kernel, by decide +kernel⟩
def T__law_begun_rules (K : PySem.W.Frag) (sp__law_cell : Sp) (sp__law_kinds : Sp) : TS :=
  (tSeq (tAsg (tOp (uAdd K) (tC (.int 1)) (tOp uMod (tCall sp__law_cell [] E0 (tCons (tVar 0) (tCons (tOp (uAdd K) (tVar 1) (tC (.int 1))) tNil))) (tC (.int 4)))) (gName 2))
  (tSeq (tAsg (tLst (tCons (tTup (tCons (tC (.str (Str.ofString ""))) (tCons (tTup (tCons (tC (.str (Str.ofString "a"))) tNil)) (tCons (tC (.str (Str.ofString "top"))) tNil)))) tNil)) (gName 3))
  (tSeq (tFor (iRng1 (tCons (tVar 2) tNil)) (gName 4) (tSeq (tAsg (tOp (rIx K) (tC (.str (Str.ofString "abcd"))) (tVar 4)) (gName 5))
  (tSeq (tAsg (tOp (uAdd K) (tOp (uAdd K) (tC (.int 1)) (tOp uMod (tCall sp__law_cell [] E0 (tCons (tVar 0) (tCons (tOp (uAdd K) (tOp (uAdd K) (tVar 1) (tC (.int 2))) (tVar 4)) tNil))) (tC (.int 3)))) (tCB uInt (tCons (tOp uLt (tOp (uAdd K) (tVar 4) (tC (.int 1))) (tVar 2)) tNil))) (gName 6))
  (tSeq (tAsg (tOp uMod (tCall sp__law_cell [] E0 (tCons (tVar 0) (tCons (tOp (uAdd K) (tOp (uAdd K) (tVar 1) (tC (.int 6))) (tVar 4)) tNil))) (tC (.int 6))) (gName 7))
  (tFor (iRng1 (tCons (tVar 6) tNil)) (gName 8) (tSeq (tAsg (tLst (tCons (tOp (rIx K) (tCall sp__law_kinds [] E0 tNil) (tOp uMod (tOp (uAdd K) (tVar 7) (tVar 8)) (tC (.int 6)))) tNil)) (gName 9))
  (tSeq (tIfS (tAnd (tTest (tOp (uEq K) (tVar 8) (tC (.int 1)))) (tTest (tOp uLt (tOp (uAdd K) (tVar 4) (tC (.int 1))) (tVar 2)))) (tDrop (tBM K "list" rAppend (tVar 9) (tCons (tOp (rIx K) (tC (.str (Str.ofString "abcd"))) (tOp (uAdd K) (tVar 4) (tC (.int 1)))) tNil))) tNext)
  (tSeq (tFor (iRng1 (tCons (tOp uMul (tOp uMod (tCall sp__law_cell [] E0 (tCons (tVar 0) (tCons (tOp (uAdd K) (tOp (uAdd K) (tOp (uAdd K) (tVar 1) (tC (.int 20))) (tOp uMul (tC (.int 10)) (tVar 4))) (tVar 8)) tNil))) (tC (.int 4))) (tCB uInt (tCons (tOp uGt (tVar 8) (tC (.int 0))) tNil))) tNil)) (gName 10) (tSeq (tAsg (tCall sp__law_cell [] E0 (tCons (tVar 0) (tCons (tOp (uAdd K) (tOp (uAdd K) (tOp (uAdd K) (tOp (uAdd K) (tVar 1) (tC (.int 60))) (tOp uMul (tC (.int 20)) (tVar 4))) (tOp uMul (tC (.int 4)) (tVar 8))) (tVar 10)) tNil))) (gName 11))
  (tDrop (tBM K "list" rAppend (tVar 9) (tCons (tOp (rIx K) (tLst (tCons (tOp (rIx K) (tC (.str (Str.ofString "abcd"))) (tOp uMod (tOp uDiv (tVar 11) (tC (.int 2))) (tVar 2))) (tCons (tOp (rIx K) (tCall sp__law_kinds [] E0 tNil) (tOp uMod (tOp uDiv (tVar 11) (tC (.int 2))) (tC (.int 6)))) tNil))) (tOp uMod (tVar 11) (tC (.int 2)))) tNil)))))
  (tDrop (tBM K "list" rAppend (tVar 3) (tCons (tTup (tCons (tVar 5) (tCons (tCB (uTuple K) (tCons (tVar 9) tNil)) (tCons (tOp (uAdd K) (tC (.str (Str.ofString ":"))) (tOp (rIx K) (tLst (tCons (tC (.str (Str.ofString "one"))) (tCons (tC (.str (Str.ofString "two"))) (tCons (tC (.str (Str.ofString "three"))) (tCons (tC (.str (Str.ofString "four"))) tNil))))) (tVar 8))) tNil)))) tNil)))))))))))
  (tRet (tVar 3)))))
theorem p__law_begun_rules {P : Program} {w : World} {K : PySem.W.Frag} {mg : Str → Option Value} {base : Heap} {f : Addr} {k : Nat} {sp__law_cell : Sp} (gd__law_cell : GD P w K mg base k "_law_cell" ["_law_script", "_law_k"] sp__law_cell) {sp__law_kinds : Sp} (gd__law_kinds : GD P w K mg base k "_law_kinds" [] sp__law_kinds) (mz_range : mg "range" = none) (mz_int : mg "int" = none) (mz_tuple : mg "tuple" = none) (cdv : Value) (A : Around) (outer : List Env) (s : Shared) (H : Hp) (E : XK)
    (hr : Room k (A.deeper (envOfC "_law_begun_rules" (defScope s__law_begun_rules) s.heap.objs.size f cdv))) :
    PSs (cxOf CX0 P w K mg base ["_law_script", "_law_first", "_law_many", "_law_rules_here", "_law_p", "_law_part", "_law_count", "_law_turn", "_law_r", "_law_row", "_law_j", "_law_more"] "_law_begun_rules" (defScope s__law_begun_rules) f cdv A outer s H E).nox (defBody s__law_begun_rules) (T__law_begun_rules K sp__law_cell sp__law_kinds) :=
  (pss_cons (ps_set (i := 2) sc__law_begun_rules.nd rfl (Or.inl rfl) (pe_op (ou_add rfl) pe_int (pe_op ou_mod (pe_gd gd__law_cell hr (by rfl) (pa_cons (pv 0) (pa_cons (pe_op (ou_add rfl) (pv 1) pe_int) pa_nil))) pe_int)))
  (pss_cons (ps_set (i := 3) sc__law_begun_rules.nd rfl (Or.inl rfl) (pe_lst (pa_cons (pe_tup (pa_cons pe_str (pa_cons (pe_tup (pa_cons pe_str pa_nil)) (pa_cons pe_str pa_nil)))) pa_nil)))
  (pss_cons (ps_for PassesOwn.never rfl (pi_range1 (by rfl) mz_range (pa_cons (pv 2) pa_nil)) (pg_name (i := 4) sc__law_begun_rules.nd rfl (by first | exact Or.inl rfl | exact Or.inr rfl)) (pss_cons (ps_set (i := 5) sc__law_begun_rules.nd rfl (Or.inl rfl) (pe_ix (ou_ix rfl) pe_str (pv 4) (fun _ _ => rfl)))
  (pss_cons (ps_set (i := 6) sc__law_begun_rules.nd rfl (Or.inl rfl) (pe_op (ou_add rfl) (pe_op (ou_add rfl) pe_int (pe_op ou_mod (pe_gd gd__law_cell hr (by rfl) (pa_cons (pv 0) (pa_cons (pe_op (ou_add rfl) (pe_op (ou_add rfl) (pv 1) pe_int) (pv 4)) pa_nil))) pe_int)) (pe_callTy cu_int (by rfl) mz_int (by decide +kernel) (pa_cons (pe_cmpR ou_lt (pe_op (ou_add rfl) (pv 4) pe_int) (pv 2) (nomark _)) pa_nil))))
  (pss_cons (ps_set (i := 7) sc__law_begun_rules.nd rfl (Or.inl rfl) (pe_op ou_mod (pe_gd gd__law_cell hr (by rfl) (pa_cons (pv 0) (pa_cons (pe_op (ou_add rfl) (pe_op (ou_add rfl) (pv 1) pe_int) (pv 4)) pa_nil))) pe_int))
  (pss_one (ps_for PassesOwn.never rfl (pi_range1 (by rfl) mz_range (pa_cons (pv 6) pa_nil)) (pg_name (i := 8) sc__law_begun_rules.nd rfl (by first | exact Or.inl rfl | exact Or.inr rfl)) (pss_cons (ps_set (i := 9) sc__law_begun_rules.nd rfl (Or.inl rfl) (pe_lst (pa_cons (pe_ix (ou_ix rfl) (pe_gd0 gd__law_kinds hr (by rfl)) (pe_op ou_mod (pe_op (ou_add rfl) (pv 7) (pv 8)) pe_int) (fun _ _ => rfl)) pa_nil)))
  (pss_cons (ps_if (PW.pt (pw_and (pt_cmpR (ou_eq rfl (room64 hr)) (pv 8) pe_int (nomark _)) (pw_and1 (pt_cmpR ou_lt (pe_op (ou_add rfl) (pv 4) pe_int) (pv 2) (nomark _))))) (pss_one (ps_expr (pe_bm PySem.F.plainAttrs_list PySem.F.slot_list_append PySem.F.type_list_append mt_append (pv 9) (pa_cons (pe_ix (ou_ix rfl) pe_str (pe_op (ou_add rfl) (pv 4) pe_int) (fun _ _ => rfl)) pa_nil)))) pss_nil)
  (pss_cons (ps_for PassesOwn.never rfl (pi_range1 (by rfl) mz_range (pa_cons (pe_op ou_mul (pe_op ou_mod (pe_gd gd__law_cell hr (by rfl) (pa_cons (pv 0) (pa_cons (pe_op (ou_add rfl) (pe_op (ou_add rfl) (pe_op (ou_add rfl) (pv 1) pe_int) (pe_op ou_mul pe_int (pv 4))) (pv 8)) pa_nil))) pe_int) (pe_callTy cu_int (by rfl) mz_int (by decide +kernel) (pa_cons (pe_cmpR ou_gt (pv 8) pe_int (nomark _)) pa_nil))) pa_nil)) (pg_name (i := 10) sc__law_begun_rules.nd rfl (by first | exact Or.inl rfl | exact Or.inr rfl)) (pss_cons (ps_set (i := 11) sc__law_begun_rules.nd rfl (Or.inl rfl) (pe_gd gd__law_cell hr (by rfl) (pa_cons (pv 0) (pa_cons (pe_op (ou_add rfl) (pe_op (ou_add rfl) (pe_op (ou_add rfl) (pe_op (ou_add rfl) (pv 1) pe_int) (pe_op ou_mul pe_int (pv 4))) (pe_op ou_mul pe_int (pv 8))) (pv 10)) pa_nil))))
  (pss_one (ps_expr (pe_bm PySem.F.plainAttrs_list PySem.F.slot_list_append PySem.F.type_list_append mt_append (pv 9) (pa_cons (pe_ix (ou_ix rfl) (pe_lst (pa_cons (pe_ix (ou_ix rfl) pe_str (pe_op ou_mod (pe_op ou_div (pv 11) pe_int) (pv 2)) (fun _ _ => rfl)) (pa_cons (pe_ix (ou_ix rfl) (pe_gd0 gd__law_kinds hr (by rfl)) (pe_op ou_mod (pe_op ou_div (pv 11) pe_int) pe_int) (fun _ _ => rfl)) pa_nil))) (pe_op ou_mod (pv 11) pe_int) (fun _ _ => rfl)) pa_nil))))))
  (pss_one (ps_expr (pe_bm PySem.F.plainAttrs_list PySem.F.slot_list_append PySem.F.type_list_append mt_append (pv 3) (pa_cons (pe_tup (pa_cons (pv 5) (pa_cons (pe_callTy (cu_tuple rfl) (by rfl) mz_tuple (by decide +kernel) (pa_cons (pv 9) pa_nil)) (pa_cons (pe_op (ou_add rfl) pe_str (pe_ix (ou_ix rfl) (pe_lst (pa_cons pe_str (pa_cons pe_str (pa_cons pe_str (pa_cons pe_str pa_nil))))) (pv 8) (fun _ _ => rfl))) pa_nil)))) pa_nil)))))))))))))
  (pss_one (ps_ret (pv 3))))))
/-! _law_level_rules: slots 0 _law_script, 1 _law_first, 2 _law_many, 3 _law_rules_here, 4 _law_p, 5 _law_part, 6 _law_tighter, 7 _law_word, 8 _law_way, 9 _law_some, 10 _law_last -/
abbrev s__law_level_rules : Stmt := topS 15
theorem sc__law_level_rules : FnScope ["_law_script", "_law_first", "_law_many", "_law_rules_here", "_law_p", "_law_part", "_law_tighter", "_law_word", "_law_way", "_law_some", "_law_last"] ["_law_script", "_law_first"] (defScope s__law_level_rules) := ⟨rfl, rfl, rfl, by decide +kernel, rfl, by decide +kernel, by decide +kernel⟩
def T__law_level_rules (K : PySem.W.Frag) (sp__law_cell : Sp) (sp__law_kinds : Sp) : TS :=
  (tSeq (tAsg (tOp (uAdd K) (tC (.int 1)) (tOp uMod (tCall sp__law_cell [] E0 (tCons (tVar 0) (tCons (tOp (uAdd K) (tVar 1) (tC (.int 1))) tNil))) (tC (.int 3)))) (gName 2))
  (tSeq (tAsg (tLst (tCons (tTup (tCons (tC (.str (Str.ofString ""))) (tCons (tTup (tCons (tC (.str (Str.ofString "a"))) tNil)) (tCons (tC (.str (Str.ofString "top"))) tNil)))) tNil)) (gName 3))
  (tSeq (tFor (iRng1 (tCons (tVar 2) tNil)) (gName 4) (tSeq (tAsg (tOp (rIx K) (tC (.str (Str.ofString "abcd"))) (tVar 4)) (gName 5))
  (tSeq (tAsg (tOp (rIx K) (tC (.str (Str.ofString "abcd"))) (tOp (uAdd K) (tVar 4) (tC (.int 1)))) (gName 6))
  (tSeq (tAsg (tOp (rIx K) (tCall sp__law_kinds [] E0 tNil) (tVar 4)) (gName 7))
  (tSeq (tAsg (tOp uMod (tCall sp__law_cell [] E0 (tCons (tVar 0) (tCons (tOp (uAdd K) (tOp (uAdd K) (tVar 1) (tC (.int 2))) (tVar 4)) tNil))) (tC (.int 6))) (gName 8))
  (tSeq (tAsg (tLst (tCons (tTup (tCons (tVar 5) (tCons (tVar 7) (tCons (tVar 6) tNil)))) (tCons (tTup (tCons (tVar 6) (tCons (tVar 7) (tCons (tVar 5) tNil)))) (tCons (tTup (tCons (tVar 6) (tCons (tVar 7) (tCons (tVar 6) tNil)))) (tCons (tTup (tCons (tVar 7) (tCons (tVar 5) tNil))) (tCons (tTup (tCons (tVar 5) (tCons (tVar 7) tNil))) tNil)))))) (gName 9))
  (tSeq (tDrop (tBM K "list" rAppend (tVar 9) (tCons (tTup (tCons (tVar 5) (tCons (tVar 7) (tCons (tVar 6) (tCons (tC (.str (Str.ofString "'w"))) (tCons (tVar 6) tNil)))))) tNil)))
  (tSeq (tDrop (tBM K "list" rAppend (tVar 3) (tCons (tTup (tCons (tVar 5) (tCons (tOp (rIx K) (tVar 9) (tVar 8)) (tCons (tC (.str (Str.ofString ":one"))) tNil)))) tNil)))
  (tDrop (tBM K "list" rAppend (tVar 3) (tCons (tTup (tCons (tVar 5) (tCons (tTup (tCons (tVar 6) tNil)) (tCons (tC (.str (Str.ofString "up"))) tNil)))) tNil)))))))))))
  (tSeq (tAsg (tOp (rIx K) (tC (.str (Str.ofString "abcd"))) (tVar 2)) (gName 10))
  (tSeq (tDrop (tBM K "list" rAppend (tVar 3) (tCons (tTup (tCons (tVar 10) (tCons (tTup (tCons (tC (.str (Str.ofString "NAME"))) tNil)) (tCons (tC (.str (Str.ofString ":name"))) tNil)))) tNil)))
  (tSeq (tIfS (tTest (tOp (uEq K) (tOp uMod (tCall sp__law_cell [] E0 (tCons (tVar 0) (tCons (tOp (uAdd K) (tVar 1) (tC (.int 9))) tNil))) (tC (.int 2))) (tC (.int 0)))) (tDrop (tBM K "list" rAppend (tVar 3) (tCons (tTup (tCons (tVar 10) (tCons (tTup (tCons (tC (.str (Str.ofString "'("))) (tCons (tC (.str (Str.ofString "a"))) (tCons (tC (.str (Str.ofString "')"))) tNil)))) (tCons (tC (.str (Str.ofString "in"))) tNil)))) tNil))) tNext)
  (tSeq (tIfS (tTest (tOp (uEq K) (tOp uMod (tOp uDiv (tCall sp__law_cell [] E0 (tCons (tVar 0) (tCons (tOp (uAdd K) (tVar 1) (tC (.int 9))) tNil))) (tC (.int 2))) (tC (.int 3))) (tC (.int 0)))) (tDrop (tBM K "list" rAppend (tVar 3) (tCons (tTup (tCons (tVar 10) (tCons (tTup tNil) (tCons (tC (.str (Str.ofString ":none"))) tNil)))) tNil))) tNext)
  (tRet (tVar 3)))))))))
theorem p__law_level_rules {P : Program} {w : World} {K : PySem.W.Frag} {mg : Str → Option Value} {base : Heap} {f : Addr} {k : Nat} {sp__law_cell : Sp} (gd__law_cell : GD P w K mg base k "_law_cell" ["_law_script", "_law_k"] sp__law_cell) {sp__law_kinds : Sp} (gd__law_kinds : GD P w K mg base k "_law_kinds" [] sp__law_kinds) (mz_range : mg "range" = none) (cdv : Value) (A : Around) (outer : List Env) (s : Shared) (H : Hp) (E : XK)
    (hr : Room k (A.deeper (envOfC "_law_level_rules" (defScope s__law_level_rules) s.heap.objs.size f cdv))) :
    PSs (cxOf CX0 P w K mg base ["_law_script", "_law_first", "_law_many", "_law_rules_here", "_law_p", "_law_part", "_law_tighter", "_law_word", "_law_way", "_law_some", "_law_last"] "_law_level_rules" (defScope s__law_level_rules) f cdv A outer s H E).nox (defBody s__law_level_rules) (T__law_level_rules K sp__law_cell sp__law_kinds) :=
  (pss_cons (ps_set (i := 2) sc__law_level_rules.nd rfl (Or.inl rfl) (pe_op (ou_add rfl) pe_int (pe_op ou_mod (pe_gd gd__law_cell hr (by rfl) (pa_cons (pv 0) (pa_cons (pe_op (ou_add rfl) (pv 1) pe_int) pa_nil))) pe_int)))
  (pss_cons (ps_set (i := 3) sc__law_level_rules.nd rfl (Or.inl rfl) (pe_lst (pa_cons (pe_tup (pa_cons pe_str (pa_cons (pe_tup (pa_cons pe_str pa_nil)) (pa_cons pe_str pa_nil)))) pa_nil)))
  (pss_cons (ps_for PassesOwn.never rfl (pi_range1 (by rfl) mz_range (pa_cons (pv 2) pa_nil)) (pg_name (i := 4) sc__law_level_rules.nd rfl (by first | exact Or.inl rfl | exact Or.inr rfl)) (pss_cons (ps_set (i := 5) sc__law_level_rules.nd rfl (Or.inl rfl) (pe_ix (ou_ix rfl) pe_str (pv 4) (fun _ _ => rfl)))
  (pss_cons (ps_set (i := 6) sc__law_level_rules.nd rfl (Or.inl rfl) (pe_ix (ou_ix rfl) pe_str (pe_op (ou_add rfl) (pv 4) pe_int) (fun _ _ => rfl)))
  (pss_cons (ps_set (i := 7) sc__law_level_rules.nd rfl (Or.inl rfl) (pe_ix (ou_ix rfl) (pe_gd0 gd__law_kinds hr (by rfl)) (pv 4) (fun _ _ => rfl)))
  (pss_cons (ps_set (i := 8) sc__law_level_rules.nd rfl (Or.inl rfl) (pe_op ou_mod (pe_gd gd__law_cell hr (by rfl) (pa_cons (pv 0) (pa_cons (pe_op (ou_add rfl) (pe_op (ou_add rfl) (pv 1) pe_int) (pv 4)) pa_nil))) pe_int))
  (pss_cons (ps_set (i := 9) sc__law_level_rules.nd rfl (Or.inl rfl) (pe_lst (pa_cons (pe_tup (pa_cons (pv 5) (pa_cons (pv 7) (pa_cons (pv 6) pa_nil)))) (pa_cons (pe_tup (pa_cons (pv 6) (pa_cons (pv 7) (pa_cons (pv 5) pa_nil)))) (pa_cons (pe_tup (pa_cons (pv 6) (pa_cons (pv 7) (pa_cons (pv 6) pa_nil)))) (pa_cons (pe_tup (pa_cons (pv 7) (pa_cons (pv 5) pa_nil))) (pa_cons (pe_tup (pa_cons (pv 5) (pa_cons (pv 7) pa_nil))) pa_nil)))))))
  (pss_cons (ps_expr (pe_bm PySem.F.plainAttrs_list PySem.F.slot_list_append PySem.F.type_list_append mt_append (pv 9) (pa_cons (pe_tup (pa_cons (pv 5) (pa_cons (pv 7) (pa_cons (pv 6) (pa_cons pe_str (pa_cons (pv 6) pa_nil)))))) pa_nil)))
  (pss_cons (ps_expr (pe_bm PySem.F.plainAttrs_list PySem.F.slot_list_append PySem.F.type_list_append mt_append (pv 3) (pa_cons (pe_tup (pa_cons (pv 5) (pa_cons (pe_ix (ou_ix rfl) (pv 9) (pv 8) (fun _ _ => rfl)) (pa_cons pe_str pa_nil)))) pa_nil)))
  (pss_one (ps_expr (pe_bm PySem.F.plainAttrs_list PySem.F.slot_list_append PySem.F.type_list_append mt_append (pv 3) (pa_cons (pe_tup (pa_cons (pv 5) (pa_cons (pe_tup (pa_cons (pv 6) pa_nil)) (pa_cons pe_str pa_nil)))) pa_nil))))))))))))
  (pss_cons (ps_set (i := 10) sc__law_level_rules.nd rfl (Or.inl rfl) (pe_ix (ou_ix rfl) pe_str (pv 2) (fun _ _ => rfl)))
  (pss_cons (ps_expr (pe_bm PySem.F.plainAttrs_list PySem.F.slot_list_append PySem.F.type_list_append mt_append (pv 3) (pa_cons (pe_tup (pa_cons (pv 10) (pa_cons (pe_tup (pa_cons pe_str pa_nil)) (pa_cons pe_str pa_nil)))) pa_nil)))
  (pss_cons (ps_if (pt_cmpR (ou_eq rfl (room64 hr)) (pe_op ou_mod (pe_gd gd__law_cell hr (by rfl) (pa_cons (pv 0) (pa_cons (pe_op (ou_add rfl) (pv 1) pe_int) pa_nil))) pe_int) pe_int (nomark _)) (pss_one (ps_expr (pe_bm PySem.F.plainAttrs_list PySem.F.slot_list_append PySem.F.type_list_append mt_append (pv 3) (pa_cons (pe_tup (pa_cons (pv 10) (pa_cons (pe_tup (pa_cons pe_str (pa_cons pe_str (pa_cons pe_str pa_nil)))) (pa_cons pe_str pa_nil)))) pa_nil)))) pss_nil)
  (pss_cons (ps_if (pt_cmpR (ou_eq rfl (room64 hr)) (pe_op ou_mod (pe_op ou_div (pe_gd gd__law_cell hr (by rfl) (pa_cons (pv 0) (pa_cons (pe_op (ou_add rfl) (pv 1) pe_int) pa_nil))) pe_int) pe_int) pe_int (nomark _)) (pss_one (ps_expr (pe_bm PySem.F.plainAttrs_list PySem.F.slot_list_append PySem.F.type_list_append mt_append (pv 3) (pa_cons (pe_tup (pa_cons (pv 10) (pa_cons (pe_tup pa_nil) (pa_cons pe_str pa_nil)))) pa_nil)))) pss_nil)
  (pss_one (ps_ret (pv 3))))))))))
/-! _law_list_rules: slots 0 _law_script, 1 _law_first, 2 _law_more, 3 _law_rules_here -/
abbrev s__law_list_rules : Stmt := topS 16
theorem sc__law_list_rules : FnScope ["_law_script", "_law_first", "_law_more", "_law_rules_here"] ["_law_script", "_law_first"] (defScope s__law_list_rules) := ⟨rfl, rfl, rfl, by decide +kernel, rfl, by decide +kernel, by decide +kernel⟩
def T__law_list_rules (K : PySem.W.Frag) (sp__law_cell : Sp) : TS :=
  (tSeq (tAsg (tCall sp__law_cell [] E0 (tCons (tVar 0) (tCons (tOp (uAdd K) (tVar 1) (tC (.int 1))) tNil))) (gName 2))
  (tSeq (tAsg (tLst (tCons (tTup (tCons (tC (.str (Str.ofString ""))) (tCons (tTup (tCons (tC (.str (Str.ofString "a"))) tNil)) (tCons (tC (.str (Str.ofString "top"))) tNil)))) tNil)) (gName 3))
  (tSeq (tIfS (tTest (tOp (uEq K) (tOp uMod (tOp uDiv (tVar 2) (tC (.int 54))) (tC (.int 3))) (tC (.int 1)))) (tSeq (tAsg (tOp (uAdd K) (tVar 3) (tLst (tCons (tTup (tCons (tC (.str (Str.ofString "a"))) (tCons (tTup (tCons (tC (.str (Str.ofString "'x"))) (tCons (tC (.str (Str.ofString "b"))) (tCons (tC (.str (Str.ofString "'x"))) tNil)))) (tCons (tC (.str (Str.ofString ":one"))) tNil)))) (tCons (tTup (tCons (tC (.str (Str.ofString "a"))) (tCons (tTup (tCons (tC (.str (Str.ofString "'y"))) (tCons (tC (.str (Str.ofString "b"))) (tCons (tC (.str (Str.ofString "'y"))) tNil)))) (tCons (tC (.str (Str.ofString ":two"))) tNil)))) tNil)))) (gName 3))
  (tSeq (tAsg (tOp (uAdd K) (tVar 3) (tLst (tCons (tTup (tCons (tC (.str (Str.ofString "a"))) (tCons (tTup (tCons (tC (.str (Str.ofString "'x"))) (tCons (tC (.str (Str.ofString "c"))) (tCons (tC (.str (Str.ofString "'y"))) tNil)))) (tCons (tC (.str (Str.ofString ":three"))) tNil)))) (tCons (tTup (tCons (tC (.str (Str.ofString "a"))) (tCons (tTup (tCons (tC (.str (Str.ofString "'y"))) (tCons (tC (.str (Str.ofString "c"))) (tCons (tC (.str (Str.ofString "'x"))) tNil)))) (tCons (tC (.str (Str.ofString ":four"))) tNil)))) tNil)))) (gName 3))
  (tRet (tOp (uAdd K) (tVar 3) (tLst (tCons (tTup (tCons (tC (.str (Str.ofString "b"))) (tCons (tTup (tCons (tC (.str (Str.ofString "'z"))) tNil)) (tCons (tC (.str (Str.ofString ":one"))) tNil)))) (tCons (tTup (tCons (tC (.str (Str.ofString "c"))) (tCons (tTup (tCons (tC (.str (Str.ofString "'z"))) tNil)) (tCons (tC (.str (Str.ofString ":one"))) tNil)))) tNil))))))) tNext)
  (tSeq (tAsg (tOp (uAdd K) (tVar 3) (tLst (tCons (tTup (tCons (tC (.str (Str.ofString "a"))) (tCons (tTup (tCons (tC (.str (Str.ofString "'x"))) (tCons (tC (.str (Str.ofString "a.1"))) (tCons (tC (.str (Str.ofString "b"))) tNil)))) (tCons (tC (.str (Str.ofString ":one"))) tNil)))) (tCons (tTup (tCons (tC (.str (Str.ofString "a.1"))) (tCons (tTup tNil) (tCons (tC (.str (Str.ofString "none"))) tNil)))) tNil)))) (gName 3))
  (tSeq (tDrop (tBM K "list" rAppend (tVar 3) (tCons (tTup (tCons (tC (.str (Str.ofString "a.1"))) (tCons (tOp (rIx K) (tLst (tCons (tTup (tCons (tC (.str (Str.ofString "'y"))) tNil)) (tCons (tTup (tCons (tC (.str (Str.ofString "'y"))) (tCons (tC (.str (Str.ofString "NAME"))) tNil))) (tCons (tTup (tCons (tC (.str (Str.ofString "'w"))) (tCons (tC (.str (Str.ofString "b"))) tNil))) tNil)))) (tOp uMod (tVar 2) (tC (.int 3)))) (tCons (tC (.str (Str.ofString "some"))) tNil)))) tNil)))
  (tSeq (tDrop (tBM K "list" rAppend (tVar 3) (tCons (tTup (tCons (tC (.str (Str.ofString "b"))) (tCons (tOp (rIx K) (tLst (tCons (tTup (tCons (tC (.str (Str.ofString "b.1"))) tNil)) (tCons (tTup (tCons (tC (.str (Str.ofString "b.1"))) (tCons (tC (.str (Str.ofString "'z"))) tNil))) (tCons (tTup (tCons (tC (.str (Str.ofString "'z"))) (tCons (tC (.str (Str.ofString "b.1"))) tNil))) tNil)))) (tOp uMod (tOp uDiv (tVar 2) (tC (.int 3))) (tC (.int 3)))) (tCons (tC (.str (Str.ofString ":two"))) tNil)))) tNil)))
  (tSeq (tDrop (tBM K "list" rAppend (tVar 3) (tCons (tTup (tCons (tC (.str (Str.ofString "b.1"))) (tCons (tTup tNil) (tCons (tC (.str (Str.ofString "empty"))) tNil)))) tNil)))
  (tSeq (tDrop (tBM K "list" rAppend (tVar 3) (tCons (tTup (tCons (tC (.str (Str.ofString "b.1"))) (tCons (tOp (uAdd K) (tTup (tCons (tC (.str (Str.ofString "b.1"))) tNil)) (tOp (rIx K) (tLst (tCons (tTup (tCons (tC (.str (Str.ofString "NUMBER"))) tNil)) (tCons (tTup (tCons (tC (.str (Str.ofString "'("))) (tCons (tC (.str (Str.ofString "a"))) (tCons (tC (.str (Str.ofString "')"))) tNil)))) (tCons (tTup (tCons (tC (.str (Str.ofString "NUMBER"))) (tCons (tC (.str (Str.ofString "'w"))) tNil))) tNil)))) (tOp uMod (tOp uDiv (tVar 2) (tC (.int 9))) (tC (.int 3))))) (tCons (tC (.str (Str.ofString "more"))) tNil)))) tNil)))
  (tSeq (tIfS (tTest (tOp (uEq K) (tOp uMod (tOp uDiv (tVar 2) (tC (.int 27))) (tC (.int 2))) (tC (.int 1)))) (tDrop (tBM K "list" rAppend (tVar 3) (tCons (tTup (tCons (tC (.str (Str.ofString "b"))) (tCons (tTup (tCons (tC (.str (Str.ofString "'("))) (tCons (tC (.str (Str.ofString "')"))) tNil))) (tCons (tC (.str (Str.ofString ":three"))) tNil)))) tNil))) tNext)
  (tRet (tVar 3)))))))))))
theorem p__law_list_rules {P : Program} {w : World} {K : PySem.W.Frag} {mg : Str → Option Value} {base : Heap} {f : Addr} {k : Nat} {sp__law_cell : Sp} (gd__law_cell : GD P w K mg base k "_law_cell" ["_law_script", "_law_k"] sp__law_cell) (cdv : Value) (A : Around) (outer : List Env) (s : Shared) (H : Hp) (E : XK)
    (hr : Room k (A.deeper (envOfC "_law_list_rules" (defScope s__law_list_rules) s.heap.objs.size f cdv))) :
    PSs (cxOf CX0 P w K mg base ["_law_script", "_law_first", "_law_more", "_law_rules_here"] "_law_list_rules" (defScope s__law_list_rules) f cdv A outer s H E).nox (defBody s__law_list_rules) (T__law_list_rules K sp__law_cell) :=
  (pss_cons (ps_set (i := 2) sc__law_list_rules.nd rfl (Or.inl rfl) (pe_gd gd__law_cell hr (by rfl) (pa_cons (pv 0) (pa_cons (pe_op (ou_add rfl) (pv 1) pe_int) pa_nil))))
  (pss_cons (ps_set (i := 3) sc__law_list_rules.nd rfl (Or.inl rfl) (pe_lst (pa_cons (pe_tup (pa_cons pe_str (pa_cons (pe_tup (pa_cons pe_str pa_nil)) (pa_cons pe_str pa_nil)))) pa_nil)))
  (pss_cons (ps_if (pt_cmpR (ou_eq rfl (room64 hr)) (pe_op ou_mod (pe_op ou_div (pv 2) pe_int) pe_int) pe_int (nomark _)) (pss_cons (ps_set (i := 3) sc__law_list_rules.nd rfl (Or.inl rfl) (pe_op (ou_add rfl) (pv 3) (pe_lst (pa_cons (pe_tup (pa_cons pe_str (pa_cons (pe_tup (pa_cons pe_str (pa_cons pe_str (pa_cons pe_str pa_nil)))) (pa_cons pe_str pa_nil)))) (pa_cons (pe_tup (pa_cons pe_str (pa_cons (pe_tup (pa_cons pe_str (pa_cons pe_str (pa_cons pe_str pa_nil)))) (pa_cons pe_str pa_nil)))) pa_nil)))))
  (pss_cons (ps_set (i := 3) sc__law_list_rules.nd rfl (Or.inl rfl) (pe_op (ou_add rfl) (pv 3) (pe_lst (pa_cons (pe_tup (pa_cons pe_str (pa_cons (pe_tup (pa_cons pe_str (pa_cons pe_str (pa_cons pe_str pa_nil)))) (pa_cons pe_str pa_nil)))) (pa_cons (pe_tup (pa_cons pe_str (pa_cons (pe_tup (pa_cons pe_str (pa_cons pe_str (pa_cons pe_str pa_nil)))) (pa_cons pe_str pa_nil)))) pa_nil)))))
  (pss_one (ps_ret (pe_op (ou_add rfl) (pv 3) (pe_lst (pa_cons (pe_tup (pa_cons pe_str (pa_cons (pe_tup (pa_cons pe_str pa_nil)) (pa_cons pe_str pa_nil)))) (pa_cons (pe_tup (pa_cons pe_str (pa_cons (pe_tup (pa_cons pe_str pa_nil)) (pa_cons pe_str pa_nil)))) pa_nil)))))))) pss_nil)
  (pss_cons (ps_set (i := 3) sc__law_list_rules.nd rfl (Or.inl rfl) (pe_op (ou_add rfl) (pv 3) (pe_lst (pa_cons (pe_tup (pa_cons pe_str (pa_cons (pe_tup (pa_cons pe_str (pa_cons pe_str (pa_cons pe_str pa_nil)))) (pa_cons pe_str pa_nil)))) (pa_cons (pe_tup (pa_cons pe_str (pa_cons (pe_tup pa_nil) (pa_cons pe_str pa_nil)))) pa_nil)))))
  (pss_cons (ps_expr (pe_bm PySem.F.plainAttrs_list PySem.F.slot_list_append PySem.F.type_list_append mt_append (pv 3) (pa_cons (pe_tup (pa_cons pe_str (pa_cons (pe_ix (ou_ix rfl) (pe_lst (pa_cons (pe_tup (pa_cons pe_str pa_nil)) (pa_cons (pe_tup (pa_cons pe_str (pa_cons pe_str pa_nil))) (pa_cons (pe_tup (pa_cons pe_str (pa_cons pe_str pa_nil))) pa_nil)))) (pe_op ou_mod (pv 2) pe_int) (fun _ _ => rfl)) (pa_cons pe_str pa_nil)))) pa_nil)))
  (pss_cons (ps_expr (pe_bm PySem.F.plainAttrs_list PySem.F.slot_list_append PySem.F.type_list_append mt_append (pv 3) (pa_cons (pe_tup (pa_cons pe_str (pa_cons (pe_ix (ou_ix rfl) (pe_lst (pa_cons (pe_tup (pa_cons pe_str pa_nil)) (pa_cons (pe_tup (pa_cons pe_str (pa_cons pe_str pa_nil))) (pa_cons (pe_tup (pa_cons pe_str (pa_cons pe_str pa_nil))) pa_nil)))) (pe_op ou_mod (pe_op ou_div (pv 2) pe_int) pe_int) (fun _ _ => rfl)) (pa_cons pe_str pa_nil)))) pa_nil)))
  (pss_cons (ps_expr (pe_bm PySem.F.plainAttrs_list PySem.F.slot_list_append PySem.F.type_list_append mt_append (pv 3) (pa_cons (pe_tup (pa_cons pe_str (pa_cons (pe_tup pa_nil) (pa_cons pe_str pa_nil)))) pa_nil)))
  (pss_cons (ps_expr (pe_bm PySem.F.plainAttrs_list PySem.F.slot_list_append PySem.F.type_list_append mt_append (pv 3) (pa_cons (pe_tup (pa_cons pe_str (pa_cons (pe_op (ou_add rfl) (pe_tup (pa_cons pe_str pa_nil)) (pe_ix (ou_ix rfl) (pe_lst (pa_cons (pe_tup (pa_cons pe_str pa_nil)) (pa_cons (pe_tup (pa_cons pe_str (pa_cons pe_str (pa_cons pe_str pa_nil)))) (pa_cons (pe_tup (pa_cons pe_str (pa_cons pe_str pa_nil))) pa_nil)))) (pe_op ou_mod (pe_op ou_div (pv 2) pe_int) pe_int) (fun _ _ => rfl))) (pa_cons pe_str pa_nil)))) pa_nil)))
  (pss_cons (ps_if (pt_cmpR (ou_eq rfl (room64 hr)) (pe_op ou_mod (pe_op ou_div (pv 2) pe_int) pe_int) pe_int (nomark _)) (pss_one (ps_expr (pe_bm PySem.F.plainAttrs_list PySem.F.slot_list_append PySem.F.type_list_append mt_append (pv 3) (pa_cons (pe_tup (pa_cons pe_str (pa_cons (pe_tup (pa_cons pe_str (pa_cons pe_str pa_nil))) (pa_cons pe_str pa_nil)))) pa_nil)))) pss_nil)
  (pss_one (ps_ret (pv 3))))))))))))
/-! _law_any_rules: slots 0 _law_script, 1 _law_first, 2 _law_many, 3 _law_rules_here, 4 _law_p, 5 _law_r, 6 _law_row, 7 _law_j, 8 _law_more -/
abbrev s__law_any_rules : Stmt := topS 17
theorem sc__law_any_rules : FnScope ["_law_script", "_law_first", "_law_many", "_law_rules_here", "_law_p", "_law_r", "_law_row", "_law_j", "_law_more"] ["_law_script", "_law_first"] (defScope s__law_any_rules) := ⟨rfl, rfl, rfl, by decide +kernel, rfl, by decide +kernel, by decide +kernel⟩
def T__law_any_rules (K : PySem.W.Frag) (sp__law_cell : Sp) (sp__law_kinds : Sp) : TS :=
  (tSeq (tAsg (tOp (uAdd K) (tC (.int 1)) (tOp uMod (tCall sp__law_cell [] E0 (tCons (tVar 0) (tCons (tOp (uAdd K) (tVar 1) (tC (.int 1))) tNil))) (tC (.int 4)))) (gName 2))
  (tSeq (tAsg (tLst (tCons (tTup (tCons (tC (.str (Str.ofString ""))) (tCons (tTup (tCons (tC (.str (Str.ofString "a"))) tNil)) (tCons (tC (.str (Str.ofString "top"))) tNil)))) tNil)) (gName 3))
  (tSeq (tFor (iRng1 (tCons (tVar 2) tNil)) (gName 4) (tFor (iRng1 (tCons (tOp (uAdd K) (tC (.int 1)) (tOp uMod (tCall sp__law_cell [] E0 (tCons (tVar 0) (tCons (tOp (uAdd K) (tOp (uAdd K) (tVar 1) (tC (.int 2))) (tVar 4)) tNil))) (tC (.int 3)))) tNil)) (gName 5) (tSeq (tAsg (tLst tNil) (gName 6))
  (tSeq (tFor (iRng1 (tCons (tOp uMod (tCall sp__law_cell [] E0 (tCons (tVar 0) (tCons (tOp (uAdd K) (tOp (uAdd K) (tOp (uAdd K) (tVar 1) (tC (.int 10))) (tOp uMul (tC (.int 4)) (tVar 4))) (tVar 5)) tNil))) (tC (.int 4))) tNil)) (gName 7) (tSeq (tAsg (tCall sp__law_cell [] E0 (tCons (tVar 0) (tCons (tOp (uAdd K) (tOp (uAdd K) (tOp (uAdd K) (tOp (uAdd K) (tVar 1) (tC (.int 30))) (tOp uMul (tC (.int 12)) (tVar 4))) (tOp uMul (tC (.int 4)) (tVar 5))) (tVar 7)) tNil))) (gName 8))
  (tDrop (tBM K "list" rAppend (tVar 6) (tCons (tOp (rIx K) (tLst (tCons (tOp (rIx K) (tC (.str (Str.ofString "abcd"))) (tOp uMod (tOp uDiv (tVar 8) (tC (.int 3))) (tVar 2))) (tCons (tOp (rIx K) (tCall sp__law_kinds [] E0 tNil) (tOp uMod (tOp uDiv (tVar 8) (tC (.int 3))) (tC (.int 4)))) tNil))) (tCB uMin (tCons (tC (.int 1)) (tCons (tOp uMod (tVar 8) (tC (.int 3))) tNil)))) tNil)))))
  (tDrop (tBM K "list" rAppend (tVar 3) (tCons (tTup (tCons (tOp (rIx K) (tC (.str (Str.ofString "abcd"))) (tVar 4)) (tCons (tCB (uTuple K) (tCons (tVar 6) tNil)) (tCons (tOp (uAdd K) (tC (.str (Str.ofString ":"))) (tOp (rIx K) (tLst (tCons (tC (.str (Str.ofString "one"))) (tCons (tC (.str (Str.ofString "two"))) (tCons (tC (.str (Str.ofString "three"))) tNil)))) (tVar 5))) tNil)))) tNil)))))))
  (tRet (tVar 3)))))
theorem p__law_any_rules {P : Program} {w : World} {K : PySem.W.Frag} {mg : Str → Option Value} {base : Heap} {f : Addr} {k : Nat} {sp__law_cell : Sp} (gd__law_cell : GD P w K mg base k "_law_cell" ["_law_script", "_law_k"] sp__law_cell) {sp__law_kinds : Sp} (gd__law_kinds : GD P w K mg base k "_law_kinds" [] sp__law_kinds) (mz_range : mg "range" = none) (mz_min : mg "min" = none) (mz_tuple : mg "tuple" = none) (cdv : Value) (A : Around) (outer : List Env) (s : Shared) (H : Hp) (E : XK)
    (hr : Room k (A.deeper (envOfC "_law_any_rules" (defScope s__law_any_rules) s.heap.objs.size f cdv))) :
    PSs (cxOf CX0 P w K mg base ["_law_script", "_law_first", "_law_many", "_law_rules_here", "_law_p", "_law_r", "_law_row", "_law_j", "_law_more"] "_law_any_rules" (defScope s__law_any_rules) f cdv A outer s H E).nox (defBody s__law_any_rules) (T__law_any_rules K sp__law_cell sp__law_kinds) :=
  (pss_cons (ps_set (i := 2) sc__law_any_rules.nd rfl (Or.inl rfl) (pe_op (ou_add rfl) pe_int (pe_op ou_mod (pe_gd gd__law_cell hr (by rfl) (pa_cons (pv 0) (pa_cons (pe_op (ou_add rfl) (pv 1) pe_int) pa_nil))) pe_int)))
  (pss_cons (ps_set (i := 3) sc__law_any_rules.nd rfl (Or.inl rfl) (pe_lst (pa_cons (pe_tup (pa_cons pe_str (pa_cons (pe_tup (pa_cons pe_str pa_nil)) (pa_cons pe_str pa_nil)))) pa_nil)))
  (pss_cons (ps_for PassesOwn.never rfl (pi_range1 (by rfl) mz_range (pa_cons (pv 2) pa_nil)) (pg_name (i := 4) sc__law_any_rules.nd rfl (by first | exact Or.inl rfl | exact Or.inr rfl)) (pss_one (ps_for PassesOwn.never rfl (pi_range1 (by rfl) mz_range (pa_cons (pe_op (ou_add rfl) pe_int (pe_op ou_mod (pe_gd gd__law_cell hr (by rfl) (pa_cons (pv 0) (pa_cons (pe_op (ou_add rfl) (pe_op (ou_add rfl) (pv 1) pe_int) (pv 4)) pa_nil))) pe_int)) pa_nil)) (pg_name (i := 5) sc__law_any_rules.nd rfl (by first | exact Or.inl rfl | exact Or.inr rfl)) (pss_cons (ps_set (i := 6) sc__law_any_rules.nd rfl (Or.inl rfl) (pe_lst pa_nil))
  (pss_cons (ps_for PassesOwn.never rfl (pi_range1 (by rfl) mz_range (pa_cons (pe_op ou_mod (pe_gd gd__law_cell hr (by rfl) (pa_cons (pv 0) (pa_cons (pe_op (ou_add rfl) (pe_op (ou_add rfl) (pe_op (ou_add rfl) (pv 1) pe_int) (pe_op ou_mul pe_int (pv 4))) (pv 5)) pa_nil))) pe_int) pa_nil)) (pg_name (i := 7) sc__law_any_rules.nd rfl (by first | exact Or.inl rfl | exact Or.inr rfl)) (pss_cons (ps_set (i := 8) sc__law_any_rules.nd rfl (Or.inl rfl) (pe_gd gd__law_cell hr (by rfl) (pa_cons (pv 0) (pa_cons (pe_op (ou_add rfl) (pe_op (ou_add rfl) (pe_op (ou_add rfl) (pe_op (ou_add rfl) (pv 1) pe_int) (pe_op ou_mul pe_int (pv 4))) (pe_op ou_mul pe_int (pv 5))) (pv 7)) pa_nil))))
  (pss_one (ps_expr (pe_bm PySem.F.plainAttrs_list PySem.F.slot_list_append PySem.F.type_list_append mt_append (pv 6) (pa_cons (pe_ix (ou_ix rfl) (pe_lst (pa_cons (pe_ix (ou_ix rfl) pe_str (pe_op ou_mod (pe_op ou_div (pv 8) pe_int) (pv 2)) (fun _ _ => rfl)) (pa_cons (pe_ix (ou_ix rfl) (pe_gd0 gd__law_kinds hr (by rfl)) (pe_op ou_mod (pe_op ou_div (pv 8) pe_int) pe_int) (fun _ _ => rfl)) pa_nil))) (pe_callB (cu_min rfl) (by rfl) mz_min (by decide +kernel) (pa_cons pe_int (pa_cons (pe_op ou_mod (pv 8) pe_int) pa_nil))) (fun _ _ => rfl)) pa_nil))))))
  (pss_one (ps_expr (pe_bm PySem.F.plainAttrs_list PySem.F.slot_list_append PySem.F.type_list_append mt_append (pv 3) (pa_cons (pe_tup (pa_cons (pe_ix (ou_ix rfl) pe_str (pv 4) (fun _ _ => rfl)) (pa_cons (pe_callTy (cu_tuple rfl) (by rfl) mz_tuple (by decide +kernel) (pa_cons (pv 6) pa_nil)) (pa_cons (pe_op (ou_add rfl) pe_str (pe_ix (ou_ix rfl) (pe_lst (pa_cons pe_str (pa_cons pe_str (pa_cons pe_str pa_nil)))) (pv 5) (fun _ _ => rfl))) pa_nil)))) pa_nil)))))))))
  (pss_one (ps_ret (pv 3))))))
/-! _law_rules: slots 0 _law_script, 1 _law_first, 2 _law_way -/
abbrev s__law_rules : Stmt := topS 18
theorem sc__law_rules : FnScope ["_law_script", "_law_first", "_law_way"] ["_law_script", "_law_first"] (defScope s__law_rules) := ⟨rfl, rfl, rfl, by decide +kernel, rfl, by decide +kernel, by decide +kernel⟩
def T__law_rules (K : PySem.W.Frag) (sp__law_cell : Sp) (sp__law_begun_rules : Sp) (sp__law_level_rules : Sp) (sp__law_list_rules : Sp) (sp__law_any_rules : Sp) : TS :=
  (tSeq (tAsg (tOp uMod (tCall sp__law_cell [] E0 (tCons (tVar 0) (tCons (tVar 1) tNil))) (tC (.int 7))) (gName 2))
  (tSeq (tIfS (tTest (tOp uLt (tVar 2) (tC (.int 3)))) (tRet (tCall sp__law_begun_rules [] E0 (tCons (tVar 0) (tCons (tVar 1) tNil)))) tNext)
  (tSeq (tIfS (tTest (tOp uLt (tVar 2) (tC (.int 5)))) (tRet (tCall sp__law_level_rules [] E0 (tCons (tVar 0) (tCons (tVar 1) tNil)))) tNext)
  (tSeq (tIfS (tTest (tOp (uEq K) (tVar 2) (tC (.int 5)))) (tRet (tCall sp__law_list_rules [] E0 (tCons (tVar 0) (tCons (tVar 1) tNil)))) tNext)
  (tRet (tCall sp__law_any_rules [] E0 (tCons (tVar 0) (tCons (tVar 1) tNil))))))))
theorem p__law_rules {P : Program} {w : World} {K : PySem.W.Frag} {mg : Str → Option Value} {base : Heap} {f : Addr} {k : Nat} {sp__law_cell : Sp} (gd__law_cell : GD P w K mg base k "_law_cell" ["_law_script", "_law_k"] sp__law_cell) {sp__law_begun_rules : Sp} (gd__law_begun_rules : GD P w K mg base k "_law_begun_rules" ["_law_script", "_law_first"] sp__law_begun_rules) {sp__law_level_rules : Sp} (gd__law_level_rules : GD P w K mg base k "_law_level_rules" ["_law_script", "_law_first"] sp__law_level_rules) {sp__law_list_rules : Sp} (gd__law_list_rules : GD P w K mg base k "_law_list_rules" ["_law_script", "_law_first"] sp__law_list_rules) {sp__law_any_rules : Sp} (gd__law_any_rules : GD P w K mg base k "_law_any_rules" ["_law_script", "_law_first"] sp__law_any_rules) (cdv : Value) (A : Around) (outer : List Env) (s : Shared) (H : Hp) (E : XK)
    (hr : Room k (A.deeper (envOfC "_law_rules" (defScope s__law_rules) s.heap.objs.size f cdv))) :
    PSs (cxOf CX0 P w K mg base ["_law_script", "_law_first", "_law_way"] "_law_rules" (defScope s__law_rules) f cdv A outer s H E).nox (defBody s__law_rules) (T__law_rules K sp__law_cell sp__law_begun_rules sp__law_level_rules sp__law_list_rules sp__law_any_rules) :=
  (pss_cons (ps_set (i := 2) sc__law_rules.nd rfl (Or.inl rfl) (pe_op ou_mod (pe_gd gd__law_cell hr (by rfl) (pa_cons (pv 0) (pa_cons (pv 1) pa_nil))) pe_int))
  (pss_cons (ps_if (pt_cmpR ou_lt (pv 2) pe_int (nomark _)) (pss_one (ps_ret (pe_gd gd__law_begun_rules hr (by rfl) (pa_cons (pv 0) (pa_cons (pv 1) pa_nil))))) pss_nil)
  (pss_cons (ps_if (pt_cmpR ou_lt (pv 2) pe_int (nomark _)) (pss_one (ps_ret (pe_gd gd__law_level_rules hr (by rfl) (pa_cons (pv 0) (pa_cons (pv 1) pa_nil))))) pss_nil)
  (pss_cons (ps_if (pt_cmpR (ou_eq rfl (room64 hr)) (pv 2) pe_int (nomark _)) (pss_one (ps_ret (pe_gd gd__law_list_rules hr (by rfl) (pa_cons (pv 0) (pa_cons (pv 1) pa_nil))))) pss_nil)
  (pss_one (ps_ret (pe_gd gd__law_any_rules hr (by rfl) (pa_cons (pv 0) (pa_cons (pv 1) pa_nil)))))))))
/-! _law_is_kind: slots 0 _law_symbol -/
abbrev s__law_is_kind : Stmt := topS 19
theorem sc__law_is_kind : FnScope ["_law_symbol"] ["_law_symbol"] (defScope s__law_is_kind) := ⟨rfl, rfl, rfl, by decide +kernel, rfl, by decide +kernel, by decide +kernel⟩
def T__law_is_kind (K : PySem.W.Frag) : TS :=
  (tRet (tOrV (tOp (uEq K) (tSl (uSl K) (tVar 0) tNoPart (tPart (tC (.int 1)))) (tC (.str (Str.ofString "'")))) (tOp (uIn K) (tVar 0) (tTup (tCons (tC (.str (Str.ofString "NAME"))) (tCons (tC (.str (Str.ofString "NUMBER"))) (tCons (tC (.str (Str.ofString "QUOTE"))) tNil)))))))
theorem p__law_is_kind {P : Program} {w : World} {K : PySem.W.Frag} {mg : Str → Option Value} {base : Heap} {f : Addr} {k : Nat} (cdv : Value) (A : Around) (outer : List Env) (s : Shared) (H : Hp) (E : XK)
    (hr : Room k (A.deeper (envOfC "_law_is_kind" (defScope s__law_is_kind) s.heap.objs.size f cdv))) :
    PSs (cxOf CX0 P w K mg base ["_law_symbol"] "_law_is_kind" (defScope s__law_is_kind) f cdv A outer s H E).nox (defBody s__law_is_kind) (T__law_is_kind K) :=
  (pss_one (ps_ret (pe_or (pe_cmpR (ou_eq rfl (room64 hr)) (pe_slice (ou_sl rfl) (pv 0) po_none (po_some pe_int)) pe_str (nomark _)) (pe_one (pe_cmpR (ou_in rfl (room65 hr)) (pv 0) (pe_tup (pa_cons pe_str (pa_cons pe_str (pa_cons pe_str pa_nil)))) (by rfl))))))
/-! _law_firsts: slots 0 _law_rules_here, 1 _law_found, 2 _law_rule, 3 _law_changed, 4 _law_part, 5 _law_row, 6 _law_way, 7 _law_word -/
abbrev s__law_firsts : Stmt := topS 20
theorem sc__law_firsts : FnScope ["_law_rules_here", "_law_found", "_law_rule", "_law_changed", "_law_part", "_law_row", "_law_way", "_law_word"] ["_law_rules_here"] (defScope s__law_firsts) := ⟨rfl, rfl, rfl, by decide +kernel, rfl, by decide +kernel, by decide +kernel⟩
def T__law_firsts (K : PySem.W.Frag) (sp__law_of_row : Sp) (W : WX) : TS :=
  (tSeq (tAsg tDNewK (gName 1))
  (tSeq (tFor (iU K (tVar 0)) (gName 2) (sDPut (tVar 1) (tOp (rIx K) (tVar 2) (tC (.int 0))) (tLst tNil)))
  (tSeq (tAsg (tC (.bl true)) (gName 3))
  (tSeq (tWhile (tTru K (tVar 3)) (tSeq (tAsg (tC (.bl false)) (gName 3))
  (tFor (iU K (tVar 0)) (gTup K 3 (gCons (gName 4) (gCons (gName 5) (gCons (gName 6) gNil)))) (tFor (iU K (tCallSD sp__law_of_row [] (WE W) (tCons (tVar 1) (tCons (tVar 5) (tCons (tC (.str (Str.ofString ""))) tNil))))) (gName 7) (tIfS (tTest (tOp (uNotIn K) (tVar 7) (tDGet (tVar 1) (tVar 4)))) (tSeq (tDrop (tBM K "list" rAppend (tDGet (tVar 1) (tVar 4)) (tCons (tVar 7) tNil)))
  (tAsg (tC (.bl true)) (gName 3))) tNext)))))
  (tRet (tVar 1))))))
theorem p__law_firsts {P : Program} {w : World} {K : PySem.W.Frag} {mg : Str → Option Value} {base : Heap} {f : Addr} {k : Nat} {sp__law_of_row : Sp} (gd__law_of_row : GX P w K mg base k "_law_of_row" ["_law_firsts_here", "_law_row", "_law_ahead"] sp__law_of_row) (cdv : Value) (A : Around) (outer : List Env) (s : Shared) (H : Hp) (E : XK)
    (hr : Room k (A.deeper (envOfC "_law_firsts" (defScope s__law_firsts) s.heap.objs.size f cdv))) :
    PSs (cxOf (L2.CX P w) P w K mg base ["_law_rules_here", "_law_found", "_law_rule", "_law_changed", "_law_part", "_law_row", "_law_way", "_law_word"] "_law_firsts" (defScope s__law_firsts) f cdv A outer s H E) (defBody s__law_firsts) (T__law_firsts K sp__law_of_row (fun cls d _ H => E cls d H)) :=
  (pss_cons (ps_set (i := 1) sc__law_firsts.nd rfl (Or.inl rfl) pe_dnewK)
  (pss_cons (ps_for (passes_of rfl) rfl (pi_u rfl (pv 0)) (pg_name (i := 2) sc__law_firsts.nd rfl (by first | exact Or.inl rfl | exact Or.inr rfl)) (pss_one (ps_dput (room1 hr) (pv 1) (pe_ix (ou_ix rfl) (pv 2) pe_int (fun _ _ => rfl)) (pe_lst pa_nil) (by rfl))))
  (pss_cons (ps_set (i := 3) sc__law_firsts.nd rfl (Or.inl rfl) pe_bl)
  (pss_cons (ps_while (passes_of rfl) (pt_any rfl (pv 3)) (pss_cons (ps_set (i := 3) sc__law_firsts.nd rfl (Or.inl rfl) pe_bl)
  (pss_one (ps_for (passes_of rfl) rfl (pi_u rfl (pv 0)) (pg_tup (by rfl) (pgs_cons (pg_name (i := 4) sc__law_firsts.nd rfl (by first | exact Or.inl rfl | exact Or.inr rfl)) (pgs_cons (pg_name (i := 5) sc__law_firsts.nd rfl (by first | exact Or.inl rfl | exact Or.inr rfl)) (pgs_cons (pg_name (i := 6) sc__law_firsts.nd rfl (by first | exact Or.inl rfl | exact Or.inr rfl)) pgs_nil)))) (pss_one (ps_for (passes_of rfl) rfl (pi_u rfl (pe_gx gd__law_of_row (takes_of rfl rfl rfl rfl) hr (by rfl) (pa_cons (pv 1) (pa_cons (pv 5) (pa_cons pe_str pa_nil))))) (pg_name (i := 7) sc__law_firsts.nd rfl (by first | exact Or.inl rfl | exact Or.inr rfl)) (pss_one (ps_if (pt_cmpR (ou_notin rfl (room65 hr)) (pv 7) (pe_dget (room1 hr) (pv 1) (pv 4) (fun _ _ => rfl)) (by rfl)) (pss_cons (ps_expr (pe_bm PySem.F.plainAttrs_list PySem.F.slot_list_append PySem.F.type_list_append mt_append (pe_dget (room1 hr) (pv 1) (pv 4) (fun _ _ => rfl)) (pa_cons (pv 7) pa_nil)))
  (pss_one (ps_set (i := 3) sc__law_firsts.nd rfl (Or.inl rfl) pe_bl))) pss_nil))))))))
  (pss_one (ps_ret (pv 1)))))))
/-! _law_of_row: slots 0 _law_firsts_here, 1 _law_row, 2 _law_ahead, 3 _law_heads, 4 _law_symbol, 5 _law_more, 6 _law_one -/
abbrev s__law_of_row : Stmt := topS 21
theorem sc__law_of_row : FnScope ["_law_firsts_here", "_law_row", "_law_ahead", "_law_heads", "_law_symbol", "_law_more", "_law_one"] ["_law_firsts_here", "_law_row", "_law_ahead"] (defScope s__law_of_row) := ⟨rfl, rfl, rfl, by decide +kernel, rfl, by decide +kernel, by decide +kernel⟩
def T__law_of_row (K : PySem.W.Frag) (sp__law_is_kind : Sp) (W : WX) : TS :=
  (tSeq (tAsg (tLst (tCons (tC (.str (Str.ofString ""))) tNil)) (gName 3))
  (tSeq (tFor (iU K (tVar 1)) (gName 4) (tSeq (tIfS (tTest (tOp (uNotIn K) (tC (.str (Str.ofString ""))) (tVar 3))) tBreak tNext)
  (tSeq (tAsg (tLst (tCons (tVar 4) tNil)) (gName 5))
  (tSeq (tIfS (tNot (tTru K (tCall sp__law_is_kind [] E0 (tCons (tVar 4) tNil)))) (tAsg (tDGet2 (tVar 0) (tVar 4) (tLst tNil)) (gName 5)) tNext)
  (tSeq (tAsg (tLc (iU K (tVar 3)) (gName 6) (tTest (tOp (uNe K) (tVar 6) (tC (.str (Str.ofString ""))))) (tVar 6) [6]) (gName 3))
  (tAsg (tOp (uAdd K) (tVar 3) (tLc (iU K (tVar 5)) (gName 6) (tTest (tOp (uNotIn K) (tVar 6) (tVar 3))) (tVar 6) [6])) (gName 3)))))))
  (tSeq (tIfS (tAnd (tTest (tOp (uNe K) (tVar 2) (tC (.str (Str.ofString ""))))) (tTest (tOp (uIn K) (tC (.str (Str.ofString ""))) (tVar 3)))) (tAsg (tOp (uAdd K) (tLc (iU K (tVar 3)) (gName 6) (tTest (tOp (uNe K) (tVar 6) (tC (.str (Str.ofString ""))))) (tVar 6) [6]) (tLst (tCons (tVar 2) tNil))) (gName 3)) tNext)
  (tRet (tVar 3)))))
theorem p__law_of_row {P : Program} {w : World} {K : PySem.W.Frag} {mg : Str → Option Value} {base : Heap} {f : Addr} {k : Nat} {sp__law_is_kind : Sp} (gd__law_is_kind : GD P w K mg base k "_law_is_kind" ["_law_symbol"] sp__law_is_kind) (cdv : Value) (A : Around) (outer : List Env) (s : Shared) (H : Hp) (E : XK)
    (hr : Room k (A.deeper (envOfC "_law_of_row" (defScope s__law_of_row) s.heap.objs.size f cdv))) :
    PSs (cxOf (L2.CX P w) P w K mg base ["_law_firsts_here", "_law_row", "_law_ahead", "_law_heads", "_law_symbol", "_law_more", "_law_one"] "_law_of_row" (defScope s__law_of_row) f cdv A outer s H E) (defBody s__law_of_row) (T__law_of_row K sp__law_is_kind (fun cls d _ H => E cls d H)) :=
  (pss_cons (ps_set (i := 3) sc__law_of_row.nd rfl (Or.inr rfl) (pe_lst (pa_cons pe_str pa_nil)))
  (pss_cons (ps_for (passes_of rfl) rfl (pi_u rfl (pv 1)) (pg_name (i := 4) sc__law_of_row.nd rfl (by first | exact Or.inl rfl | exact Or.inr rfl)) (pss_cons (ps_if (pt_cmpR (ou_notin rfl (room65 hr)) pe_str (pv 3) (by rfl)) (pss_one ps_break) pss_nil)
  (pss_cons (ps_set (i := 5) sc__law_of_row.nd rfl (Or.inl rfl) (pe_lst (pa_cons (pv 4) pa_nil)))
  (pss_cons (ps_if (pt_not (pt_any rfl (pe_gd gd__law_is_kind hr (by rfl) (pa_cons (pv 4) pa_nil)))) (pss_one (ps_set (i := 5) sc__law_of_row.nd rfl (Or.inl rfl) (pe_dget2 (room1 hr) (pv 0) (pv 4) (pe_lst pa_nil) ⟨rfl, rfl, rfl, rfl⟩))) pss_nil)
  (pss_cons (ps_set (i := 3) sc__law_of_row.nd rfl (Or.inr rfl) (pe_lc (own := [("_law_one", 6)]) (g := (gName 6)) (tt := (tTest (tOp (uNe K) (tVar 6) (tC (.str (Str.ofString "")))))) (te := (tVar 6)) rfl sc__law_of_row.nd (pi_u rfl (pv 3)) (blkOk_by (own := [("_law_one", 6)]) (N := ["_law_firsts_here", "_law_row", "_law_ahead", "_law_heads", "_law_symbol", "_law_more", "_law_one"]) (sc := defScope s__law_of_row) (by decide +kernel)) (fun _ _ _ _ _ => (pg_name (i := 6) sc__law_of_row.nd rfl (by first | exact Or.inl rfl | exact Or.inr rfl))) (fun _ _ _ _ _ => (pts_one (pt_cmpR (ou_ne rfl (room64 hr)) (pv 6) pe_str (nomark _)))) (fun _ _ _ _ _ => (pv 6))))
  (pss_one (ps_set (i := 3) sc__law_of_row.nd rfl (Or.inr rfl) (pe_op (ou_add rfl) (pv 3) (pe_lc (own := [("_law_one", 6)]) (g := (gName 6)) (tt := (tTest (tOp (uNotIn K) (tVar 6) (tVar 3)))) (te := (tVar 6)) rfl sc__law_of_row.nd (pi_u rfl (pv 5)) (blkOk_by (own := [("_law_one", 6)]) (N := ["_law_firsts_here", "_law_row", "_law_ahead", "_law_heads", "_law_symbol", "_law_more", "_law_one"]) (sc := defScope s__law_of_row) (by decide +kernel)) (fun _ _ _ _ _ => (pg_name (i := 6) sc__law_of_row.nd rfl (by first | exact Or.inl rfl | exact Or.inr rfl))) (fun _ _ _ _ _ => (pts_one (pt_cmpR (ou_notin rfl (room65 hr)) (pv 6) (pv 3) (by rfl)))) (fun _ _ _ _ _ => (pv 6)))))))))))
  (pss_cons (ps_if (PW.pt (pw_and (pt_cmpR (ou_ne rfl (room64 hr)) (pv 2) pe_str (nomark _)) (pw_and1 (pt_cmpR (ou_in rfl (room65 hr)) pe_str (pv 3) (by rfl))))) (pss_one (ps_set (i := 3) sc__law_of_row.nd rfl (Or.inr rfl) (pe_op (ou_add rfl) (pe_lc (own := [("_law_one", 6)]) (g := (gName 6)) (tt := (tTest (tOp (uNe K) (tVar 6) (tC (.str (Str.ofString "")))))) (te := (tVar 6)) rfl sc__law_of_row.nd (pi_u rfl (pv 3)) (blkOk_by (own := [("_law_one", 6)]) (N := ["_law_firsts_here", "_law_row", "_law_ahead", "_law_heads", "_law_symbol", "_law_more", "_law_one"]) (sc := defScope s__law_of_row) (by decide +kernel)) (fun _ _ _ _ _ => (pg_name (i := 6) sc__law_of_row.nd rfl (by first | exact Or.inl rfl | exact Or.inr rfl))) (fun _ _ _ _ _ => (pts_one (pt_cmpR (ou_ne rfl (room64 hr)) (pv 6) pe_str (nomark _)))) (fun _ _ _ _ _ => (pv 6))) (pe_lst (pa_cons (pv 2) pa_nil))))) pss_nil)
  (pss_one (ps_ret (pv 3))))))
/-! _law_right: slots 0 _law_rules_here, 1 _law_script, 2 _law_k, 3 _law_handed, 4 _law_looks, 5 _law_firsts_here, 6 _law_parts, 7 _law_rule, 8 _law_bare, 9 _law_part, 10 _law_numbers, 11 _law_j, 12 _law_more, 13 _law_row, 14 _law_ahead, 15 _law_found, 16 _law_word, 17 _law_number -/
abbrev s__law_right : Stmt := topS 22
theorem sc__law_right : FnScope ["_law_rules_here", "_law_script", "_law_k", "_law_handed", "_law_looks", "_law_firsts_here", "_law_parts", "_law_rule", "_law_bare", "_law_part", "_law_numbers", "_law_j", "_law_more", "_law_row", "_law_ahead", "_law_found", "_law_word", "_law_number"] ["_law_rules_here", "_law_script", "_law_k"] (defScope s__law_right) := ⟨rfl, rfl, rfl, by decide +kernel, rfl, by decide +kernel, by decide +kernel⟩
def T__law_right (K : PySem.W.Frag) (sp__law_firsts : Sp) (sp__law_cell : Sp) (sp__law_of_row : Sp) (x_Looks : Addr) (ms_parts : List (Addr × Sp)) (ms_empties : List (Addr × Sp)) (ms_firsts : List (Addr × Sp)) (ms_numbers : List (Addr × Sp)) (ms_begins : List (Addr × Sp)) (sp_Looks_0 : Sp) : TS :=
  (tSeq (tAsg (tCB (uList K) (tCons (tVar 0) tNil)) (gName 3))
  (tSeq (tAsg (tMkU x_Looks sp_Looks_0 [] (fun _ => E0) (tCons (tVar 3) tNil)) (gName 4))
  (tSeq (tDrop (tBM0 K "list" rClear (tVar 3)))
  (tSeq (tAsg (tCall sp__law_firsts [] E0 (tCons (tVar 0) tNil)) (gName 5))
  (tSeq (tAsg (tLst tNil) (gName 6))
  (tSeq (tFor (iU K (tVar 0)) (gName 7) (tIfS (tTest (tOp (uNotIn K) (tOp (rIx K) (tVar 7) (tC (.int 0))) (tVar 6))) (tDrop (tBM K "list" rAppend (tVar 6) (tCons (tOp (rIx K) (tVar 7) (tC (.int 0))) tNil))) tNext))
  (tSeq (tAsg (tCB (uSorted K) (tCons (tLc (iU K (tVar 6)) (gName 9) (tTest (tOp (uIn K) (tC (.str (Str.ofString ""))) (tDGet (tVar 5) (tVar 9)))) (tVar 9) [9]) tNil)) (gName 8))
  (tSeq (tIfS (tOr (tTest (tOp (uNe K) (tMu ms_parts "parts" (fun _ => E0) (tVar 4) tNil) (tVar 6))) (tTest (tOp (uNe K) (tMu ms_empties "empties" (fun _ => E0) (tVar 4) tNil) (tVar 8)))) (tRet (tC (.bl false))) tNext)
  (tSeq (tFor (iU K (tVar 6)) (gName 9) (tSeq (tIfS (tTest (tOp (uNe K) (tMu ms_firsts "firsts" (fun _ => E0) (tVar 4) (tCons (tVar 9) tNil)) (tCB (uSorted K) (tCons (tLc (iU K (tDGet (tVar 5) (tVar 9))) (gName 16) (tTest (tOp (uNe K) (tVar 16) (tC (.str (Str.ofString ""))))) (tVar 16) [16]) tNil)))) (tRet (tC (.bl false))) tNext)
  (tSeq (tAsg (tLc (iRng1 (tCons (tCB (uLen K) (tCons (tVar 0) tNil)) tNil)) (gName 17) (tTest (tOp (uEq K) (tOp (rIx K) (tOp (rIx K) (tVar 0) (tVar 17)) (tC (.int 0))) (tVar 9))) (tVar 17) [17]) (gName 10))
  (tSeq (tIfS (tTest (tOp (uNe K) (tMu ms_numbers "numbers" (fun _ => E0) (tVar 4) (tCons (tVar 9) tNil)) (tVar 10))) (tRet (tC (.bl false))) tNext)
  (tSeq (tDrop (tBM K "list" rAppend (tMu ms_numbers "numbers" (fun _ => E0) (tVar 4) (tCons (tVar 9) tNil)) (tCons (tC (.int 0)) tNil)))
  (tIfS (tTest (tOp (uNe K) (tMu ms_numbers "numbers" (fun _ => E0) (tVar 4) (tCons (tVar 9) tNil)) (tVar 10))) (tRet (tC (.bl false))) tNext))))))
  (tSeq (tFor (iRng1 (tCons (tC (.int 4)) tNil)) (gName 11) (tSeq (tAsg (tCall sp__law_cell [] E0 (tCons (tVar 1) (tCons (tOp (uAdd K) (tVar 2) (tVar 11)) tNil))) (gName 12))
  (tSeq (tAsg (tSl (uSl K) (tOp (rIx K) (tOp (rIx K) (tVar 0) (tOp uMod (tVar 12) (tCB (uLen K) (tCons (tVar 0) tNil)))) (tC (.int 1))) (tPart (tOp uMod (tOp uDiv (tVar 12) (tC (.int 50))) (tC (.int 2)))) tNoPart) (gName 13))
  (tSeq (tAsg (tOp (rIx K) (tLst (tCons (tC (.str (Str.ofString ""))) (tCons (tC (.str (Str.ofString "'x"))) (tCons (tC (.str (Str.ofString "QUOTE"))) tNil)))) (tOp uMod (tOp uDiv (tVar 12) (tC (.int 7))) (tC (.int 3)))) (gName 14))
  (tSeq (tAsg (tMu ms_begins "begins" (fun _ => E0) (tVar 4) (tCons (tVar 13) (tCons (tVar 14) tNil))) (gName 15))
  (tSeq (tIfS (tOr (tNot (tTru K (tCB (uIsi K) (tCons (tVar 15) (tCons (tC (.ty "list")) tNil))))) (tTest (tOp (uNe K) (tVar 15) (tSortSet K (tCall sp__law_of_row [] E0 (tCons (tVar 5) (tCons (tVar 13) (tCons (tVar 14) tNil)))))))) (tRet (tC (.bl false))) tNext)
  (tDrop (tBM K "list" rAppend (tVar 15) (tCons (tC (.str (Str.ofString "x"))) tNil)))))))))
  (tSeq (tDrop (tBM K "list" rAppend (tMu ms_parts "parts" (fun _ => E0) (tVar 4) tNil) (tCons (tC (.str (Str.ofString "x"))) tNil)))
  (tSeq (tDrop (tBM K "list" rAppend (tMu ms_empties "empties" (fun _ => E0) (tVar 4) tNil) (tCons (tC (.str (Str.ofString "x"))) tNil)))
  (tSeq (tDrop (tBM K "list" rAppend (tMu ms_firsts "firsts" (fun _ => E0) (tVar 4) (tCons (tC (.str (Str.ofString "a"))) tNil)) (tCons (tC (.str (Str.ofString "x"))) tNil)))
  (tSeq (tIfS (tOr (tTest (tOp (uNe K) (tMu ms_empties "empties" (fun _ => E0) (tVar 4) tNil) (tVar 8))) (tTest (tOp (uNe K) (tMu ms_firsts "firsts" (fun _ => E0) (tVar 4) (tCons (tC (.str (Str.ofString "a"))) tNil)) (tCB (uSorted K) (tCons (tLc (iU K (tDGet (tVar 5) (tC (.str (Str.ofString "a"))))) (gName 16) (tTest (tOp (uNe K) (tVar 16) (tC (.str (Str.ofString ""))))) (tVar 16) [16]) tNil))))) (tRet (tC (.bl false))) tNext)
  (tRet (tAndV (tOp (uEq K) (tMu ms_parts "parts" (fun _ => E0) (tVar 4) tNil) (tVar 6)) (tOp (uEqL K) (tMu ms_numbers "numbers" (fun _ => E0) (tVar 4) (tCons (tC (.str (Str.ofString "nobody"))) tNil)) (tLst tNil))))))))))))))))))
theorem p__law_right {P : Program} {w : World} {K : PySem.W.Frag} {mg : Str → Option Value} {base : Heap} {f : Addr} {k : Nat} {sp__law_firsts : Sp} (gd__law_firsts : GX P w K mg base k "_law_firsts" ["_law_rules_here"] sp__law_firsts) {sp__law_cell : Sp} (gd__law_cell : GD P w K mg base k "_law_cell" ["_law_script", "_law_k"] sp__law_cell) {sp__law_of_row : Sp} (gd__law_of_row : GX P w K mg base k "_law_of_row" ["_law_firsts_here", "_law_row", "_law_ahead"] sp__law_of_row) {x_Looks : Addr} {ms_parts : List (Addr × Sp)} (md_parts : MDs P w K mg base k "parts" ms_parts) {ms_empties : List (Addr × Sp)} (md_empties : MDs P w K mg base k "empties" ms_empties) {ms_firsts : List (Addr × Sp)} (md_firsts : MDs P w K mg base k "firsts" ms_firsts) {ms_numbers : List (Addr × Sp)} (md_numbers : MDs P w K mg base k "numbers" ms_numbers) {ms_begins : List (Addr × Sp)} (md_begins : MDs P w K mg base k "begins" ms_begins) {sp_Looks_0 : Sp} {kc_Looks_0 : Nat} (cd_Looks_0 : CD P w K mg base kc_Looks_0 "Looks" x_Looks [] sp_Looks_0) (hk_Looks_0 : kc_Looks_0 + 1 ≤ k) (kp_Looks : PySem.W.keepIn K (.ref x_Looks) = true) (mz_list : mg "list" = none) (mz_sorted : mg "sorted" = none) (mz_range : mg "range" = none) (mz_len : mg "len" = none) (mz_isinstance : mg "isinstance" = none) (mz_set : mg "set" = none) (cdv : Value) (A : Around) (outer : List Env) (s : Shared) (H : Hp) (E : XK)
    (hr : Room k (A.deeper (envOfC "_law_right" (defScope s__law_right) s.heap.objs.size f cdv))) :
    PSs (cxOf CX0 P w K mg base ["_law_rules_here", "_law_script", "_law_k", "_law_handed", "_law_looks", "_law_firsts_here", "_law_parts", "_law_rule", "_law_bare", "_law_part", "_law_numbers", "_law_j", "_law_more", "_law_row", "_law_ahead", "_law_found", "_law_word", "_law_number"] "_law_right" (defScope s__law_right) f cdv A outer s H E).nox (defBody s__law_right) (T__law_right K sp__law_firsts sp__law_cell sp__law_of_row x_Looks ms_parts ms_empties ms_firsts ms_numbers ms_begins sp_Looks_0) :=
  (pss_cons (ps_set (i := 3) sc__law_right.nd rfl (Or.inl rfl) (pe_callTy (cu_list rfl) (by rfl) mz_list (by decide +kernel) (pa_cons (pv 0) pa_nil)))
  (pss_cons (ps_set (i := 4) sc__law_right.nd rfl (Or.inl rfl) (pe_mkU cd_Looks_0 (fun σ => passL0 σ) (hr.mono hk_Looks_0) (by rfl) kp_Looks (pa_cons (pv 3) pa_nil)))
  (pss_cons (ps_expr (pe_bm0 PySem.F.plainAttrs_list PySem.F.slot_list_clear PySem.F.type_list_clear mt_clear (pv 3)))
  (pss_cons (ps_set (i := 5) sc__law_right.nd rfl (Or.inr rfl) (pe_gx0 gd__law_firsts hr (by rfl) (pa_cons (pv 0) pa_nil)))
  (pss_cons (ps_set (i := 6) sc__law_right.nd rfl (Or.inl rfl) (pe_lst pa_nil))
  (pss_cons (ps_for PassesOwn.never rfl (pi_u rfl (pv 0)) (pg_name (i := 7) sc__law_right.nd rfl (by first | exact Or.inl rfl | exact Or.inr rfl)) (pss_one (ps_if (pt_cmpR (ou_notin rfl (room65 hr)) (pe_ix (ou_ix rfl) (pv 7) pe_int (fun _ _ => rfl)) (pv 6) (by rfl)) (pss_one (ps_expr (pe_bm PySem.F.plainAttrs_list PySem.F.slot_list_append PySem.F.type_list_append mt_append (pv 6) (pa_cons (pe_ix (ou_ix rfl) (pv 7) pe_int (fun _ _ => rfl)) pa_nil)))) pss_nil)))
  (pss_cons (ps_set (i := 8) sc__law_right.nd rfl (Or.inl rfl) (pe_callB (cu_sorted rfl (room64 hr)) (by rfl) mz_sorted (by decide +kernel) (pa_cons (pe_lc (own := [("_law_part", 9)]) (g := (gName 9)) (tt := (tTest (tOp (uIn K) (tC (.str (Str.ofString ""))) (tDGet (tVar 5) (tVar 9))))) (te := (tVar 9)) rfl sc__law_right.nd (pi_u rfl (pv 6)) (blkOk_by (own := [("_law_part", 9)]) (N := ["_law_rules_here", "_law_script", "_law_k", "_law_handed", "_law_looks", "_law_firsts_here", "_law_parts", "_law_rule", "_law_bare", "_law_part", "_law_numbers", "_law_j", "_law_more", "_law_row", "_law_ahead", "_law_found", "_law_word", "_law_number"]) (sc := defScope s__law_right) (by decide +kernel)) (fun _ _ _ _ _ => (pg_name (i := 9) sc__law_right.nd rfl (by first | exact Or.inl rfl | exact Or.inr rfl))) (fun _ _ _ _ _ => (pts_one (pt_cmpR (ou_in rfl (room65 hr)) pe_str (pe_dget (room1 hr) (pv 5) (pv 9) (fun _ _ => rfl)) (by rfl)))) (fun _ _ _ _ _ => (pv 9))) pa_nil)))
  (pss_cons (ps_if (PW.pt (pw_or (pt_cmpR (ou_ne rfl (room64 hr)) (pe_mu0 md_parts (fun σ => passL0 σ) hr (pv 4)) (pv 6) (nomark _)) (pw_or1 (pt_cmpR (ou_ne rfl (room64 hr)) (pe_mu0 md_empties (fun σ => passL0 σ) hr (pv 4)) (pv 8) (nomark _))))) (pss_one (ps_ret pe_bl)) pss_nil)
  (pss_cons (ps_for PassesOwn.never rfl (pi_u rfl (pv 6)) (pg_name (i := 9) sc__law_right.nd rfl (by first | exact Or.inl rfl | exact Or.inr rfl)) (pss_cons (ps_if (pt_cmpR (ou_ne rfl (room64 hr)) (pe_mu md_firsts (fun σ => passL0 σ) hr (pv 4) (pa_cons (pv 9) pa_nil)) (pe_callB (cu_sorted rfl (room64 hr)) (by rfl) mz_sorted (by decide +kernel) (pa_cons (pe_lc (own := [("_law_word", 16)]) (g := (gName 16)) (tt := (tTest (tOp (uNe K) (tVar 16) (tC (.str (Str.ofString "")))))) (te := (tVar 16)) rfl sc__law_right.nd (pi_u rfl (pe_dget (room1 hr) (pv 5) (pv 9) (fun _ _ => rfl))) (blkOk_by (own := [("_law_word", 16)]) (N := ["_law_rules_here", "_law_script", "_law_k", "_law_handed", "_law_looks", "_law_firsts_here", "_law_parts", "_law_rule", "_law_bare", "_law_part", "_law_numbers", "_law_j", "_law_more", "_law_row", "_law_ahead", "_law_found", "_law_word", "_law_number"]) (sc := defScope s__law_right) (by decide +kernel)) (fun _ _ _ _ _ => (pg_name (i := 16) sc__law_right.nd rfl (by first | exact Or.inl rfl | exact Or.inr rfl))) (fun _ _ _ _ _ => (pts_one (pt_cmpR (ou_ne rfl (room64 hr)) (pv 16) pe_str (nomark _)))) (fun _ _ _ _ _ => (pv 16))) pa_nil)) (nomark _)) (pss_one (ps_ret pe_bl)) pss_nil)
  (pss_cons (ps_setLc (i := 10) (own := [("_law_number", 17)]) (g := (gName 17)) (tt := (tTest (tOp (uEq K) (tOp (rIx K) (tOp (rIx K) (tVar 0) (tVar 17)) (tC (.int 0))) (tVar 9)))) (te := (tVar 17)) rfl sc__law_right.nd rfl rfl (sw_true rfl rfl rfl (by decide +kernel)) (pi_range1 (by rfl) mz_range (pa_cons (pe_callB (cu_len rfl) (by rfl) mz_len (by decide +kernel) (pa_cons (pv 0) pa_nil)) pa_nil)) (blkOk_by (own := [("_law_number", 17)]) (N := ["_law_rules_here", "_law_script", "_law_k", "_law_handed", "_law_looks", "_law_firsts_here", "_law_parts", "_law_rule", "_law_bare", "_law_part", "_law_numbers", "_law_j", "_law_more", "_law_row", "_law_ahead", "_law_found", "_law_word", "_law_number"]) (sc := defScope s__law_right) (by decide +kernel)) (fun _ _ _ _ _ => (pg_name (i := 17) sc__law_right.nd rfl (by first | exact Or.inl rfl | exact Or.inr rfl))) (fun _ _ _ _ _ => (pts_one (pt_cmpR (ou_eq rfl (room64 hr)) (pe_ix (ou_ix rfl) (pe_ix (ou_ix rfl) (pv 0) (pv 17) (fun _ _ => rfl)) pe_int (fun _ _ => rfl)) (pv 9) (nomark _)))) (fun _ _ _ _ _ => (pv 17)))
  (pss_cons (ps_if (pt_cmpR (ou_ne rfl (room64 hr)) (pe_mu md_numbers (fun σ => passL0 σ) hr (pv 4) (pa_cons (pv 9) pa_nil)) (pv 10) (nomark _)) (pss_one (ps_ret pe_bl)) pss_nil)
  (pss_cons (ps_expr (pe_bm PySem.F.plainAttrs_list PySem.F.slot_list_append PySem.F.type_list_append mt_append (pe_mu md_numbers (fun σ => passL0 σ) hr (pv 4) (pa_cons (pv 9) pa_nil)) (pa_cons pe_int pa_nil)))
  (pss_one (ps_if (pt_cmpR (ou_ne rfl (room64 hr)) (pe_mu md_numbers (fun σ => passL0 σ) hr (pv 4) (pa_cons (pv 9) pa_nil)) (pv 10) (nomark _)) (pss_one (ps_ret pe_bl)) pss_nil)))))))
  (pss_cons (ps_for PassesOwn.never rfl (pi_range1 (by rfl) mz_range (pa_cons pe_int pa_nil)) (pg_name (i := 11) sc__law_right.nd rfl (by first | exact Or.inl rfl | exact Or.inr rfl)) (pss_cons (ps_set (i := 12) sc__law_right.nd rfl (Or.inl rfl) (pe_gd gd__law_cell hr (by rfl) (pa_cons (pv 1) (pa_cons (pe_op (ou_add rfl) (pv 2) (pv 11)) pa_nil))))
  (pss_cons (ps_set (i := 13) sc__law_right.nd rfl (Or.inl rfl) (pe_slice (ou_sl rfl) (pe_ix (ou_ix rfl) (pe_ix (ou_ix rfl) (pv 0) (pe_op ou_mod (pv 12) (pe_callB (cu_len rfl) (by rfl) mz_len (by decide +kernel) (pa_cons (pv 0) pa_nil))) (fun _ _ => rfl)) pe_int (fun _ _ => rfl)) (po_some (pe_op ou_mod (pe_op ou_div (pv 12) pe_int) pe_int)) po_none))
  (pss_cons (ps_set (i := 14) sc__law_right.nd rfl (Or.inl rfl) (pe_ix (ou_ix rfl) (pe_lst (pa_cons pe_str (pa_cons pe_str (pa_cons pe_str pa_nil)))) (pe_op ou_mod (pe_op ou_div (pv 12) pe_int) pe_int) (fun _ _ => rfl)))
  (pss_cons (ps_set (i := 15) sc__law_right.nd rfl (Or.inl rfl) (pe_mu md_begins (fun σ => passL0 σ) hr (pv 4) (pa_cons (pv 13) (pa_cons (pv 14) pa_nil))))
  (pss_cons (ps_if (PW.pt (pw_or (pt_not (pt_any rfl (pe_callB (cu_isiU rfl) (by rfl) mz_isinstance (by decide +kernel) (pa_cons (pv 15) (pa_cons (pe_bltn (v := .ty "list") (by rfl) mz_list (by decide +kernel) rfl) pa_nil))))) (pw_or1 (pt_cmpR (ou_ne rfl (room64 hr)) (pv 15) (pe_sortSet rfl rfl (room64 hr) (by rfl) mz_sorted (by rfl) mz_set (pe_gx0 gd__law_of_row hr (by rfl) (pa_cons (pv 5) (pa_cons (pv 13) (pa_cons (pv 14) pa_nil))))) (nomark _))))) (pss_one (ps_ret pe_bl)) pss_nil)
  (pss_one (ps_expr (pe_bm PySem.F.plainAttrs_list PySem.F.slot_list_append PySem.F.type_list_append mt_append (pv 15) (pa_cons pe_str pa_nil))))))))))
  (pss_cons (ps_expr (pe_bm PySem.F.plainAttrs_list PySem.F.slot_list_append PySem.F.type_list_append mt_append (pe_mu0 md_parts (fun σ => passL0 σ) hr (pv 4)) (pa_cons pe_str pa_nil)))
  (pss_cons (ps_expr (pe_bm PySem.F.plainAttrs_list PySem.F.slot_list_append PySem.F.type_list_append mt_append (pe_mu0 md_empties (fun σ => passL0 σ) hr (pv 4)) (pa_cons pe_str pa_nil)))
  (pss_cons (ps_expr (pe_bm PySem.F.plainAttrs_list PySem.F.slot_list_append PySem.F.type_list_append mt_append (pe_mu md_firsts (fun σ => passL0 σ) hr (pv 4) (pa_cons pe_str pa_nil)) (pa_cons pe_str pa_nil)))
  (pss_cons (ps_if (PW.pt (pw_or (pt_cmpR (ou_ne rfl (room64 hr)) (pe_mu0 md_empties (fun σ => passL0 σ) hr (pv 4)) (pv 8) (nomark _)) (pw_or1 (pt_cmpR (ou_ne rfl (room64 hr)) (pe_mu md_firsts (fun σ => passL0 σ) hr (pv 4) (pa_cons pe_str pa_nil)) (pe_callB (cu_sorted rfl (room64 hr)) (by rfl) mz_sorted (by decide +kernel) (pa_cons (pe_lc (own := [("_law_word", 16)]) (g := (gName 16)) (tt := (tTest (tOp (uNe K) (tVar 16) (tC (.str (Str.ofString "")))))) (te := (tVar 16)) rfl sc__law_right.nd (pi_u rfl (pe_dget (room1 hr) (pv 5) pe_str (fun _ _ => rfl))) (blkOk_by (own := [("_law_word", 16)]) (N := ["_law_rules_here", "_law_script", "_law_k", "_law_handed", "_law_looks", "_law_firsts_here", "_law_parts", "_law_rule", "_law_bare", "_law_part", "_law_numbers", "_law_j", "_law_more", "_law_row", "_law_ahead", "_law_found", "_law_word", "_law_number"]) (sc := defScope s__law_right) (by decide +kernel)) (fun _ _ _ _ _ => (pg_name (i := 16) sc__law_right.nd rfl (by first | exact Or.inl rfl | exact Or.inr rfl))) (fun _ _ _ _ _ => (pts_one (pt_cmpR (ou_ne rfl (room64 hr)) (pv 16) pe_str (nomark _)))) (fun _ _ _ _ _ => (pv 16))) pa_nil)) (nomark _))))) (pss_one (ps_ret pe_bl)) pss_nil)
  (pss_one (ps_ret (pe_and (pe_cmpR (ou_eq rfl (room64 hr)) (pe_mu0 md_parts (fun σ => passL0 σ) hr (pv 4)) (pv 6) (nomark _)) (pe_one (pe_cmpR (ou_eqL rfl (room64 hr)) (pe_mu md_numbers (fun σ => passL0 σ) hr (pv 4) (pa_cons pe_str pa_nil)) (pe_lst pa_nil) (nomark _))))))))))))))))))))
/-! law: slots 0 _law_script, 1 _law_k, 2 _law_rules_here, 3 _law_handed -/
abbrev s_law : Stmt := topS 23
theorem sc_law : FnScope ["_law_script", "_law_k", "_law_rules_here", "_law_handed"] ["_law_script"] (defScope s_law) := ⟨rfl, rfl, rfl, by decide +kernel, rfl, by decide +kernel, by decide +kernel⟩
def T_law (K : PySem.W.Frag) (sp__law_rules : Sp) (sp__law_right : Sp) : TS :=
  (tSeq (tFor (iRng1 (tCons (tCB (uMaxU K) (tCons (tC (.int 2)) (tCons (tCB uMin (tCons (tOp uDiv (tCB (uLen K) (tCons (tVar 0) tNil)) (tC (.int 3))) (tCons (tC (.int 12)) tNil))) tNil))) tNil)) (gName 1) (tSeq (tAsg (tCall sp__law_rules [] E0 (tCons (tVar 0) (tCons (tOp uMul (tC (.int 100)) (tVar 1)) tNil))) (gName 2))
  (tSeq (tAsg (tCB (uList K) (tCons (tVar 2) tNil)) (gName 3))
  (tIfS (tOr (tNot (tTru K (tCall sp__law_right [] E0 (tCons (tVar 3) (tCons (tVar 0) (tCons (tOp (uAdd K) (tC (.int 50)) (tOp uMul (tC (.int 100)) (tVar 1))) tNil)))))) (tTest (tOp (uNe K) (tVar 3) (tVar 2)))) (tRet (tC (.bl false))) tNext))))
  (tRet (tC (.bl true))))
theorem p_law {P : Program} {w : World} {K : PySem.W.Frag} {mg : Str → Option Value} {base : Heap} {f : Addr} {k : Nat} {sp__law_rules : Sp} (gd__law_rules : GD P w K mg base k "_law_rules" ["_law_script", "_law_first"] sp__law_rules) {sp__law_right : Sp} (gd__law_right : GD P w K mg base k "_law_right" ["_law_rules_here", "_law_script", "_law_k"] sp__law_right) (mz_range : mg "range" = none) (mz_max : mg "max" = none) (mz_min : mg "min" = none) (mz_len : mg "len" = none) (mz_list : mg "list" = none) (cdv : Value) (A : Around) (outer : List Env) (s : Shared) (H : Hp) (E : XK)
    (hr : Room k (A.deeper (envOfC "law" (defScope s_law) s.heap.objs.size f cdv))) :
    PSs (cxOf CX0 P w K mg base ["_law_script", "_law_k", "_law_rules_here", "_law_handed"] "law" (defScope s_law) f cdv A outer s H E).nox (defBody s_law) (T_law K sp__law_rules sp__law_right) :=
  (pss_cons (ps_for PassesOwn.never rfl (pi_range1 (by rfl) mz_range (pa_cons (pe_callB (cu_maxU rfl rfl (room64 hr)) (by rfl) mz_max (by decide +kernel) (pa_cons pe_int (pa_cons (pe_callB (cu_min rfl) (by rfl) mz_min (by decide +kernel) (pa_cons (pe_op ou_div (pe_callB (cu_len rfl) (by rfl) mz_len (by decide +kernel) (pa_cons (pv 0) pa_nil)) pe_int) (pa_cons pe_int pa_nil))) pa_nil))) pa_nil)) (pg_name (i := 1) sc_law.nd rfl (by first | exact Or.inl rfl | exact Or.inr rfl)) (pss_cons (ps_set (i := 2) sc_law.nd rfl (Or.inl rfl) (pe_gd gd__law_rules hr (by rfl) (pa_cons (pv 0) (pa_cons (pe_op ou_mul pe_int (pv 1)) pa_nil))))
  (pss_cons (ps_set (i := 3) sc_law.nd rfl (Or.inl rfl) (pe_callTy (cu_list rfl) (by rfl) mz_list (by decide +kernel) (pa_cons (pv 2) pa_nil)))
  (pss_one (ps_if (PW.pt (pw_or (pt_not (pt_any rfl (pe_gd gd__law_right hr (by rfl) (pa_cons (pv 3) (pa_cons (pv 0) (pa_cons (pe_op (ou_add rfl) pe_int (pe_op ou_mul pe_int (pv 1))) pa_nil)))))) (pw_or1 (pt_cmpR (ou_ne rfl (room64 hr)) (pv 3) (pv 2) (nomark _))))) (pss_one (ps_ret pe_bl)) pss_nil)))))
  (pss_one (ps_ret pe_bl)))
/-! Looks___init__: slots 0 self, 1 rules, 2 number, 3 rule -/
abbrev s_Looks___init__ : Stmt := inClass (topS 10) 0
theorem sc_Looks___init__ : FnScope ["self", "rules", "number", "rule"] ["self", "rules"] (defScope s_Looks___init__) := ⟨rfl, rfl, rfl, by decide +kernel, rfl, by decide +kernel, by decide +kernel⟩
def T_Looks___init__ (K : PySem.W.Frag) (ms_find_bare : List (Addr × Sp)) (ms_find_heads : List (Addr × Sp)) (W : WX) : TS :=
  (tSeq (sFld K (tVar 0) (tCB (uList K) (tCons (tVar 1) tNil)) "rules")
  (tSeq (sFld K (tVar 0) tDNewK "by_part")
  (tSeq (tFor (iEnumU K (tCons (tAt K "rules" (tVar 0)) tNil)) (gTup K 2 (gCons (gName 2) (gCons (gName 3) gNil))) (tDrop (tBM K "list" rAppend (tDSetd (tAt K "by_part" (tVar 0)) (tOp (rIx K) (tVar 3) (tC (.int 0))) (tLst tNil)) (tCons (tVar 2) tNil))))
  (tSeq (sFld K (tVar 0) tDNewK "bare")
  (tSeq (sFld K (tVar 0) tDNewK "heads")
  (tSeq (tDrop (tMu ms_find_bare "find_bare" (WE W) (tVar 0) tNil))
  (tDrop (tMu ms_find_heads "find_heads" (WE W) (tVar 0) tNil))))))))
theorem p_Looks___init__ {P : Program} {w : World} {K : PySem.W.Frag} {mg : Str → Option Value} {base : Heap} {f : Addr} {k : Nat} {ms_find_bare : List (Addr × Sp)} (md_find_bare : MDs P w K mg base k "find_bare" ms_find_bare) {ms_find_heads : List (Addr × Sp)} (md_find_heads : MDs P w K mg base k "find_heads" ms_find_heads) (mz_list : mg "list" = none) (mz_enumerate : mg "enumerate" = none) (cdv : Value) (A : Around) (outer : List Env) (s : Shared) (H : Hp) (E : XK)
    (hr : Room k (A.deeper (envOfC "Looks.__init__" (defScope s_Looks___init__) s.heap.objs.size f cdv))) :
    PSs (cxOf (L2.CX P w) P w K mg base ["self", "rules", "number", "rule"] "Looks.__init__" (defScope s_Looks___init__) f cdv A outer s H E) (defBody s_Looks___init__) (T_Looks___init__ K ms_find_bare ms_find_heads (fun cls d _ H => E cls d H)) :=
  (pss_cons (ps_fldU rfl (pv 0) (pe_callTy (cu_list rfl) (by rfl) mz_list (by decide +kernel) (pa_cons (pv 1) pa_nil)) (by rfl))
  (pss_cons (ps_fldU rfl (pv 0) pe_dnewK (by rfl))
  (pss_cons (ps_for (passes_of rfl) rfl (pi_enumV rfl (by rfl) mz_enumerate (pa_cons (pe_at rfl (pv 0)) pa_nil)) (pg_tup (by rfl) (pgs_cons (pg_name (i := 2) sc_Looks___init__.nd rfl (by first | exact Or.inl rfl | exact Or.inr rfl)) (pgs_cons (pg_name (i := 3) sc_Looks___init__.nd rfl (by first | exact Or.inl rfl | exact Or.inr rfl)) pgs_nil))) (pss_one (ps_expr (pe_bm PySem.F.plainAttrs_list PySem.F.slot_list_append PySem.F.type_list_append mt_append (pe_dsetd (pe_at rfl (pv 0)) (pe_ix (ou_ix rfl) (pv 3) pe_int (fun _ _ => rfl)) (pe_lst pa_nil) ⟨rfl, rfl, rfl, rfl⟩) (pa_cons (pv 2) pa_nil)))))
  (pss_cons (ps_fldU rfl (pv 0) pe_dnewK (by rfl))
  (pss_cons (ps_fldU rfl (pv 0) pe_dnewK (by rfl))
  (pss_cons (ps_expr (pe_mu0 md_find_bare (fun σ => passAt (takes_of rfl rfl rfl rfl) σ) hr (pv 0)))
  (pss_one (ps_expr (pe_mu0 md_find_heads (fun σ => passAt (takes_of rfl rfl rfl rfl) σ) hr (pv 0))))))))))
/-! Looks_find_bare: slots 0 self, 1 changed, 2 part, 3 row, 4 way, 5 symbol -/
abbrev s_Looks_find_bare : Stmt := inClass (topS 10) 1
theorem sc_Looks_find_bare : FnScope ["self", "changed", "part", "row", "way", "symbol"] ["self"] (defScope s_Looks_find_bare) := ⟨rfl, rfl, rfl, by decide +kernel, rfl, by decide +kernel, by decide +kernel⟩
def T_Looks_find_bare (K : PySem.W.Frag) (W : WX) : TS :=
  (tSeq (tAsg (tC (.bl true)) (gName 1))
  (tWhile (tTru K (tVar 1)) (tSeq (tAsg (tC (.bl false)) (gName 1))
  (tFor (iU K (tAt K "rules" (tVar 0))) (gTup K 3 (gCons (gName 2) (gCons (gName 3) (gCons (gName 4) gNil)))) (tIfS (tAnd (tB (tDNotIn (tVar 2) (tAt K "bare" (tVar 0)))) (tTru K (tCB (rAll K) (tCons (tLc (iU K (tVar 3)) (gName 5) tYes (tDIn (tVar 5) (tAt K "bare" (tVar 0))) [5]) tNil)))) (tSeq (sDPut (tAt K "bare" (tVar 0)) (tVar 2) (tC (.bl true)))
  (tAsg (tC (.bl true)) (gName 1))) tNext)))))
theorem p_Looks_find_bare {P : Program} {w : World} {K : PySem.W.Frag} {mg : Str → Option Value} {base : Heap} {f : Addr} {k : Nat} (mz_all : mg "all" = none) (cdv : Value) (A : Around) (outer : List Env) (s : Shared) (H : Hp) (E : XK)
    (hr : Room k (A.deeper (envOfC "Looks.find_bare" (defScope s_Looks_find_bare) s.heap.objs.size f cdv))) :
    PSs (cxOf (L2.CX P w) P w K mg base ["self", "changed", "part", "row", "way", "symbol"] "Looks.find_bare" (defScope s_Looks_find_bare) f cdv A outer s H E) (defBody s_Looks_find_bare) (T_Looks_find_bare K (fun cls d _ H => E cls d H)) :=
  (pss_cons (ps_set (i := 1) sc_Looks_find_bare.nd rfl (Or.inl rfl) pe_bl)
  (pss_one (ps_while (passes_of rfl) (pt_any rfl (pv 1)) (pss_cons (ps_set (i := 1) sc_Looks_find_bare.nd rfl (Or.inl rfl) pe_bl)
  (pss_one (ps_for (passes_of rfl) rfl (pi_u rfl (pe_at rfl (pv 0))) (pg_tup (by rfl) (pgs_cons (pg_name (i := 2) sc_Looks_find_bare.nd rfl (by first | exact Or.inl rfl | exact Or.inr rfl)) (pgs_cons (pg_name (i := 3) sc_Looks_find_bare.nd rfl (by first | exact Or.inl rfl | exact Or.inr rfl)) (pgs_cons (pg_name (i := 4) sc_Looks_find_bare.nd rfl (by first | exact Or.inl rfl | exact Or.inr rfl)) pgs_nil)))) (pss_one (ps_if (PW.pt (pw_and (pt_cmp (pc_dnotin (room1 hr) (pv 2) (pe_at rfl (pv 0))) (by rfl)) (pw_and1 (pt_any rfl (pe_callB (cu_all rfl rfl) (by rfl) mz_all (by decide +kernel) (pa_cons (pe_lc (own := [("symbol", 5)]) (g := (gName 5)) (tt := tYes) (te := (tDIn (tVar 5) (tAt K "bare" (tVar 0)))) rfl sc_Looks_find_bare.nd (pi_u rfl (pv 3)) (blkOk_by (own := [("symbol", 5)]) (N := ["self", "changed", "part", "row", "way", "symbol"]) (sc := defScope s_Looks_find_bare) (by decide +kernel)) (fun _ _ _ _ _ => (pg_name (i := 5) sc_Looks_find_bare.nd rfl (by first | exact Or.inl rfl | exact Or.inr rfl))) (fun _ _ _ _ _ => pts_nil) (fun _ _ _ _ _ => (pe_cmp (pc_din (room1 hr) (pv 5) (pe_at rfl (pv 0))) (by rfl)))) pa_nil)))))) (pss_cons (ps_dput (room1 hr) (pe_at rfl (pv 0)) (pv 2) pe_bl (by rfl))
  (pss_one (ps_set (i := 1) sc_Looks_find_bare.nd rfl (Or.inl rfl) pe_bl))) pss_nil))))))))
/-! Looks_find_heads: slots 0 self, 1 part, 2 changed, 3 row, 4 way, 5 kind -/
abbrev s_Looks_find_heads : Stmt := inClass (topS 10) 2
theorem sc_Looks_find_heads : FnScope ["self", "part", "changed", "row", "way", "kind"] ["self"] (defScope s_Looks_find_heads) := ⟨rfl, rfl, rfl, by decide +kernel, rfl, by decide +kernel, by decide +kernel⟩
def T_Looks_find_heads (K : PySem.W.Frag) (ms_heads_of : List (Addr × Sp)) (W : WX) : TS :=
  (tSeq (tLk (tFor (iKeys (tAt K "by_part" (tVar 0))) (gName 1) (sDPut (tAt K "heads" (tVar 0)) (tVar 1) tDNewK)))
  (tSeq (tAsg (tC (.bl true)) (gName 2))
  (tWhile (tTru K (tVar 2)) (tSeq (tAsg (tC (.bl false)) (gName 2))
  (tFor (iU K (tAt K "rules" (tVar 0))) (gTup K 3 (gCons (gName 1) (gCons (gName 3) (gCons (gName 4) gNil)))) (tFor (iKeysT (tMu ms_heads_of "heads_of" (WE W) (tVar 0) (tCons (tVar 3) tNil))) (gName 5) (tIfS (tB (tDNotIn (tVar 5) (tDGet (tAt K "heads" (tVar 0)) (tVar 1)))) (tSeq (sDPut (tDGet (tAt K "heads" (tVar 0)) (tVar 1)) (tVar 5) (tC (.bl true)))
  (tAsg (tC (.bl true)) (gName 2))) tNext)))))))
theorem p_Looks_find_heads {P : Program} {w : World} {K : PySem.W.Frag} {mg : Str → Option Value} {base : Heap} {f : Addr} {k : Nat} {ms_heads_of : List (Addr × Sp)} (md_heads_of : MDs P w K mg base k "heads_of" ms_heads_of) (cdv : Value) (A : Around) (outer : List Env) (s : Shared) (H : Hp) (E : XK)
    (hr : Room k (A.deeper (envOfC "Looks.find_heads" (defScope s_Looks_find_heads) s.heap.objs.size f cdv))) :
    PSs (cxOf (L2.CX P w) P w K mg base ["self", "part", "changed", "row", "way", "kind"] "Looks.find_heads" (defScope s_Looks_find_heads) f cdv A outer s H E) (defBody s_Looks_find_heads) (T_Looks_find_heads K ms_heads_of (fun cls d _ H => E cls d H)) :=
  (pss_cons (ps_lk (ps_for (passes_of rfl) rfl (pi_keys (pe_at rfl (pv 0))) (pg_name (i := 1) sc_Looks_find_heads.nd rfl (by first | exact Or.inl rfl | exact Or.inr rfl)) (pss_one (ps_dput (room1 hr) (pe_at rfl (pv 0)) (pv 1) pe_dnewK (by rfl)))))
  (pss_cons (ps_set (i := 2) sc_Looks_find_heads.nd rfl (Or.inl rfl) pe_bl)
  (pss_one (ps_while (passes_of rfl) (pt_any rfl (pv 2)) (pss_cons (ps_set (i := 2) sc_Looks_find_heads.nd rfl (Or.inl rfl) pe_bl)
  (pss_one (ps_for (passes_of rfl) rfl (pi_u rfl (pe_at rfl (pv 0))) (pg_tup (by rfl) (pgs_cons (pg_name (i := 1) sc_Looks_find_heads.nd rfl (by first | exact Or.inl rfl | exact Or.inr rfl)) (pgs_cons (pg_name (i := 3) sc_Looks_find_heads.nd rfl (by first | exact Or.inl rfl | exact Or.inr rfl)) (pgs_cons (pg_name (i := 4) sc_Looks_find_heads.nd rfl (by first | exact Or.inl rfl | exact Or.inr rfl)) pgs_nil)))) (pss_one (ps_for (passes_of rfl) rfl (pi_keysT (pe_mu md_heads_of (fun σ => passAt (takes_of rfl rfl rfl rfl) σ) hr (pv 0) (pa_cons (pv 3) pa_nil))) (pg_name (i := 5) sc_Looks_find_heads.nd rfl (by first | exact Or.inl rfl | exact Or.inr rfl)) (pss_one (ps_if (pt_cmp (pc_dnotin (room1 hr) (pv 5) (pe_dget (room1 hr) (pe_at rfl (pv 0)) (pv 1) (fun _ _ => rfl))) (by rfl)) (pss_cons (ps_dput (room1 hr) (pe_dget (room1 hr) (pe_at rfl (pv 0)) (pv 1) (fun _ _ => rfl)) (pv 5) pe_bl (by rfl))
  (pss_one (ps_set (i := 2) sc_Looks_find_heads.nd rfl (Or.inl rfl) pe_bl))) pss_nil)))))))))))
/-! Looks_heads_of: slots 0 self, 1 row, 2 found, 3 symbol -/
abbrev s_Looks_heads_of : Stmt := inClass (topS 10) 3
theorem sc_Looks_heads_of : FnScope ["self", "row", "found", "symbol"] ["self", "row"] (defScope s_Looks_heads_of) := ⟨rfl, rfl, rfl, by decide +kernel, rfl, by decide +kernel, by decide +kernel⟩
def T_Looks_heads_of (K : PySem.W.Frag) (sp_is_kind : Sp) (W : WX) : TS :=
  (tSeq (tAsg tDNewK (gName 2))
  (tSeq (tFor (iU K (tVar 1)) (gName 3) (tSeq (tIfS (tTru K (tCall sp_is_kind [] E0 (tCons (tVar 3) tNil))) (tSeq (sDPut (tVar 2) (tVar 3) (tC (.bl true)))
  (tRet (tVar 2))) tNext)
  (tSeq (tDrop (tBM K "dict" rDUpd (tVar 2) (tCons (tDGet2 (tAt K "heads" (tVar 0)) (tVar 3) tDNewK) tNil)))
  (tIfS (tB (tDNotIn (tVar 3) (tAt K "bare" (tVar 0)))) (tRet (tVar 2)) tNext))))
  (tRet (tVar 2))))
theorem p_Looks_heads_of {P : Program} {w : World} {K : PySem.W.Frag} {mg : Str → Option Value} {base : Heap} {f : Addr} {k : Nat} {sp_is_kind : Sp} (gd_is_kind : GD P w K mg base k "is_kind" ["thing"] sp_is_kind) (cdv : Value) (A : Around) (outer : List Env) (s : Shared) (H : Hp) (E : XK)
    (hr : Room k (A.deeper (envOfC "Looks.heads_of" (defScope s_Looks_heads_of) s.heap.objs.size f cdv))) :
    PSs (cxOf (L2.CX P w) P w K mg base ["self", "row", "found", "symbol"] "Looks.heads_of" (defScope s_Looks_heads_of) f cdv A outer s H E) (defBody s_Looks_heads_of) (T_Looks_heads_of K sp_is_kind (fun cls d _ H => E cls d H)) :=
  (pss_cons (ps_set (i := 2) sc_Looks_heads_of.nd rfl (Or.inl rfl) pe_dnewK)
  (pss_cons (ps_for (passes_of rfl) rfl (pi_u rfl (pv 1)) (pg_name (i := 3) sc_Looks_heads_of.nd rfl (by first | exact Or.inl rfl | exact Or.inr rfl)) (pss_cons (ps_if (pt_any rfl (pe_gd gd_is_kind hr (by rfl) (pa_cons (pv 3) pa_nil))) (pss_cons (ps_dput (room1 hr) (pv 2) (pv 3) pe_bl (by rfl))
  (pss_one (ps_ret (pv 2)))) pss_nil)
  (pss_cons (ps_expr (pe_bm PySem.F.plainAttrs_dict PySem.F.slot_dict_update PySem.F.type_dict_update mt_dupd (pv 2) (pa_cons (pe_dget2 (room1 hr) (pe_at rfl (pv 0)) (pv 3) pe_dnewK ⟨rfl, rfl, rfl, rfl⟩) pa_nil)))
  (pss_one (ps_if (pt_cmp (pc_dnotin (room1 hr) (pv 3) (pe_at rfl (pv 0))) (by rfl)) (pss_one (ps_ret (pv 2))) pss_nil)))))
  (pss_one (ps_ret (pv 2)))))
/-! Looks_empties: slots 0 self -/
abbrev s_Looks_empties : Stmt := inClass (topS 10) 4
theorem sc_Looks_empties : FnScope ["self"] ["self"] (defScope s_Looks_empties) := ⟨rfl, rfl, rfl, by decide +kernel, rfl, by decide +kernel, by decide +kernel⟩
def T_Looks_empties (K : PySem.W.Frag) (W : WX) : TS :=
  (tRet (tCB uSortD (tCons (tAt K "bare" (tVar 0)) tNil)))
theorem p_Looks_empties {P : Program} {w : World} {K : PySem.W.Frag} {mg : Str → Option Value} {base : Heap} {f : Addr} {k : Nat} (mz_sorted : mg "sorted" = none) (cdv : Value) (A : Around) (outer : List Env) (s : Shared) (H : Hp) (E : XK)
    (hr : Room k (A.deeper (envOfC "Looks.empties" (defScope s_Looks_empties) s.heap.objs.size f cdv))) :
    PSs (cxOf (L2.CX P w) P w K mg base ["self"] "Looks.empties" (defScope s_Looks_empties) f cdv A outer s H E) (defBody s_Looks_empties) (T_Looks_empties K (fun cls d _ H => E cls d H)) :=
  (pss_one (ps_ret (pe_callB (cu_sortD rfl) (by rfl) mz_sorted (by decide +kernel) (pa_cons (pe_at rfl (pv 0)) pa_nil))))
/-! Looks_firsts: slots 0 self, 1 part -/
abbrev s_Looks_firsts : Stmt := inClass (topS 10) 5
theorem sc_Looks_firsts : FnScope ["self", "part"] ["self", "part"] (defScope s_Looks_firsts) := ⟨rfl, rfl, rfl, by decide +kernel, rfl, by decide +kernel, by decide +kernel⟩
def T_Looks_firsts (K : PySem.W.Frag) (W : WX) : TS :=
  (tRet (tCB uSortD (tCons (tDGet (tAt K "heads" (tVar 0)) (tVar 1)) tNil)))
theorem p_Looks_firsts {P : Program} {w : World} {K : PySem.W.Frag} {mg : Str → Option Value} {base : Heap} {f : Addr} {k : Nat} (mz_sorted : mg "sorted" = none) (cdv : Value) (A : Around) (outer : List Env) (s : Shared) (H : Hp) (E : XK)
    (hr : Room k (A.deeper (envOfC "Looks.firsts" (defScope s_Looks_firsts) s.heap.objs.size f cdv))) :
    PSs (cxOf (L2.CX P w) P w K mg base ["self", "part"] "Looks.firsts" (defScope s_Looks_firsts) f cdv A outer s H E) (defBody s_Looks_firsts) (T_Looks_firsts K (fun cls d _ H => E cls d H)) :=
  (pss_one (ps_ret (pe_callB (cu_sortD rfl) (by rfl) mz_sorted (by decide +kernel) (pa_cons (pe_dget (room1 hr) (pe_at rfl (pv 0)) (pv 1) (fun _ _ => rfl)) pa_nil))))
/-! Looks_begins: slots 0 self, 1 row, 2 ahead, 3 found, 4 symbol -/
abbrev s_Looks_begins : Stmt := inClass (topS 10) 6
theorem sc_Looks_begins : FnScope ["self", "row", "ahead", "found", "symbol"] ["self", "row", "ahead"] (defScope s_Looks_begins) := ⟨rfl, rfl, rfl, by decide +kernel, rfl, by decide +kernel, by decide +kernel⟩
def T_Looks_begins (K : PySem.W.Frag) (ms_heads_of : List (Addr × Sp)) (W : WX) : TS :=
  (tSeq (tAsg (tMu ms_heads_of "heads_of" (WE W) (tVar 0) (tCons (tVar 1) tNil)) (gName 3))
  (tSeq (tIfS (tTru K (tCB (rAll K) (tCons (tLc (iU K (tVar 1)) (gName 4) tYes (tDIn (tVar 4) (tAt K "bare" (tVar 0))) [4]) tNil))) (sDPut (tVar 3) (tVar 2) (tC (.bl true))) tNext)
  (tRet (tCB uSortD (tCons (tVar 3) tNil)))))
theorem p_Looks_begins {P : Program} {w : World} {K : PySem.W.Frag} {mg : Str → Option Value} {base : Heap} {f : Addr} {k : Nat} {ms_heads_of : List (Addr × Sp)} (md_heads_of : MDs P w K mg base k "heads_of" ms_heads_of) (mz_all : mg "all" = none) (mz_sorted : mg "sorted" = none) (cdv : Value) (A : Around) (outer : List Env) (s : Shared) (H : Hp) (E : XK)
    (hr : Room k (A.deeper (envOfC "Looks.begins" (defScope s_Looks_begins) s.heap.objs.size f cdv))) :
    PSs (cxOf (L2.CX P w) P w K mg base ["self", "row", "ahead", "found", "symbol"] "Looks.begins" (defScope s_Looks_begins) f cdv A outer s H E) (defBody s_Looks_begins) (T_Looks_begins K ms_heads_of (fun cls d _ H => E cls d H)) :=
  (pss_cons (ps_set (i := 3) sc_Looks_begins.nd rfl (Or.inl rfl) (pe_mu md_heads_of (fun σ => passAt (takes_of rfl rfl rfl rfl) σ) hr (pv 0) (pa_cons (pv 1) pa_nil)))
  (pss_cons (ps_if (pt_any rfl (pe_callB (cu_all rfl rfl) (by rfl) mz_all (by decide +kernel) (pa_cons (pe_lc (own := [("symbol", 4)]) (g := (gName 4)) (tt := tYes) (te := (tDIn (tVar 4) (tAt K "bare" (tVar 0)))) rfl sc_Looks_begins.nd (pi_u rfl (pv 1)) (blkOk_by (own := [("symbol", 4)]) (N := ["self", "row", "ahead", "found", "symbol"]) (sc := defScope s_Looks_begins) (by decide +kernel)) (fun _ _ _ _ _ => (pg_name (i := 4) sc_Looks_begins.nd rfl (by first | exact Or.inl rfl | exact Or.inr rfl))) (fun _ _ _ _ _ => pts_nil) (fun _ _ _ _ _ => (pe_cmp (pc_din (room1 hr) (pv 4) (pe_at rfl (pv 0))) (by rfl)))) pa_nil))) (pss_one (ps_dput (room1 hr) (pv 3) (pv 2) pe_bl (by rfl))) pss_nil)
  (pss_one (ps_ret (pe_callB (cu_sortD rfl) (by rfl) mz_sorted (by decide +kernel) (pa_cons (pv 3) pa_nil))))))
/-! Looks_numbers: slots 0 self, 1 part -/
abbrev s_Looks_numbers : Stmt := inClass (topS 10) 7
theorem sc_Looks_numbers : FnScope ["self", "part"] ["self", "part"] (defScope s_Looks_numbers) := ⟨rfl, rfl, rfl, by decide +kernel, rfl, by decide +kernel, by decide +kernel⟩
def T_Looks_numbers (K : PySem.W.Frag) (W : WX) : TS :=
  (tRet (tCB (uList K) (tCons (tDGet2 (tAt K "by_part" (tVar 0)) (tVar 1) (tLst tNil)) tNil)))
theorem p_Looks_numbers {P : Program} {w : World} {K : PySem.W.Frag} {mg : Str → Option Value} {base : Heap} {f : Addr} {k : Nat} (mz_list : mg "list" = none) (cdv : Value) (A : Around) (outer : List Env) (s : Shared) (H : Hp) (E : XK)
    (hr : Room k (A.deeper (envOfC "Looks.numbers" (defScope s_Looks_numbers) s.heap.objs.size f cdv))) :
    PSs (cxOf (L2.CX P w) P w K mg base ["self", "part"] "Looks.numbers" (defScope s_Looks_numbers) f cdv A outer s H E) (defBody s_Looks_numbers) (T_Looks_numbers K (fun cls d _ H => E cls d H)) :=
  (pss_one (ps_ret (pe_callTy (cu_list rfl) (by rfl) mz_list (by decide +kernel) (pa_cons (pe_dget2 (room1 hr) (pe_at rfl (pv 0)) (pv 1) (pe_lst pa_nil) ⟨rfl, rfl, rfl, rfl⟩) pa_nil))))
/-! Looks_parts: slots 0 self -/
abbrev s_Looks_parts : Stmt := inClass (topS 10) 8
theorem sc_Looks_parts : FnScope ["self"] ["self"] (defScope s_Looks_parts) := ⟨rfl, rfl, rfl, by decide +kernel, rfl, by decide +kernel, by decide +kernel⟩
def T_Looks_parts (K : PySem.W.Frag) (W : WX) : TS :=
  (tRet (tCB uListD (tCons (tAt K "by_part" (tVar 0)) tNil)))
theorem p_Looks_parts {P : Program} {w : World} {K : PySem.W.Frag} {mg : Str → Option Value} {base : Heap} {f : Addr} {k : Nat} (mz_list : mg "list" = none) (cdv : Value) (A : Around) (outer : List Env) (s : Shared) (H : Hp) (E : XK)
    (hr : Room k (A.deeper (envOfC "Looks.parts" (defScope s_Looks_parts) s.heap.objs.size f cdv))) :
    PSs (cxOf (L2.CX P w) P w K mg base ["self"] "Looks.parts" (defScope s_Looks_parts) f cdv A outer s H E) (defBody s_Looks_parts) (T_Looks_parts K (fun cls d _ H => E cls d H)) :=
  (pss_one (ps_ret (pe_callTy (cu_listD rfl) (by rfl) mz_list (by decide +kernel) (pa_cons (pe_at rfl (pv 0)) pa_nil))))
abbrev PF (d : Dat) : Post := { nx := fun _ => d = .non, rt := fun d' => d' = d }
/-! ### the law's cells -/
def cell0 (ns : List Int) (k : Int) : Int := if ns.isEmpty then 7919 * k + 11 else ns.getD (k % (ns.length : Int)).toNat 0 * 48271 + 104729 * k + k / (ns.length : Int) * 7919
def cellF (ns : List Int) (k : Int) : Int :=
  (cell0 ns k % 2147483647 * (cell0 ns k % 2147483647) % 2147483629 * (cell0 ns k % 2147483647 * (cell0 ns k % 2147483647) % 2147483629) + 69621 * (cell0 ns k % 2147483647 * (cell0 ns k % 2147483647) % 2147483629) + k) % 2147483587
theorem cellF_lo (ns : List Int) (k : Int) : 0 ≤ cellF ns k := Int.emod_nonneg _ (by decide)
theorem cellF_hi (ns : List Int) (k : Int) : cellF ns k < 2147483587 := Int.emod_lt_of_pos _ (by decide)
def R__law_cell (ds : List Dat) (d : Dat) : Prop := ∃ ns k, ds = [.scr ns, .int k] ∧ ns.length ≤ 63 ∧ 0 ≤ k ∧ k ≤ 1000000 ∧ d = .int (cellF ns k)
theorem r__law_cell {ns : List Int} {k : Int} (h : ns.length ≤ 63) (h0 : 0 ≤ k) (h1 : k ≤ 1000000) : R__law_cell [.scr ns, .int k] (.int (cellF ns k)) := ⟨ns, k, rfl, h, h0, h1, rfl⟩
theorem h__law_cell {K : PySem.W.Frag} {W : WX} (ds : List Dat) (d : Dat) (h : R__law_cell ds d) : SemS K W (T__law_cell K) (slots 4 ds) (PF d) := by
  obtain ⟨ns, k, rfl, hl, h0, h1, rfl⟩ := h
  have main : ∀ ρ', ρ'[1]? = some (Sl.dat (.int k)) → ρ'[2]? = some (Sl.dat (.int (cell0 ns k))) → ρ'.length = 4 → SemS K W (tSeq (tAsg (tOp uMod (tVar 2) (tC (.int 2147483647))) (gName 3))
      (tSeq (tAsg (tOp uMod (tOp uMul (tVar 3) (tVar 3)) (tC (.int 2147483629))) (gName 3))
      (tRet (tOp uMod (tOp (uAdd K) (tOp (uAdd K) (tOp uMul (tVar 3) (tVar 3)) (tOp uMul (tC (.int 69621)) (tVar 3))) (tVar 1)) (tC (.int 2147483587)))))) ρ' (PF (.int (cellF ns k))) := by
    intro ρ' h1' h2' h3'
    obtain ⟨s0, s1, s2, s3, rfl⟩ : ∃ s0 s1 s2 s3, ρ' = [s0, s1, s2, s3] := by
      match ρ', h3' with
      | [a, b, c, d], _ => exact ⟨a, b, c, d, rfl⟩
    cases h1'
    cases h2'
    apply ss_seq
    apply ss_asg
    · walk_at "sem"
    apply ss_seq
    apply ss_asg
    · walk_at "sem"
    apply ss_ret
    · walk_at "sem"
    · rfl
  apply ss_seq
  apply ss_asg
  · walk_at "sem"
  apply ss_seq
  apply ss_if
  · walk_at "test"
  · intro hb
    have hne : ns.isEmpty = false := by
      cases ns with
      | nil => cases hb
      | cons a r => rfl
    have hp : 0 < ns.length := by
      cases ns with
      | nil => cases hb
      | cons a r => exact Nat.succ_pos _
    have hx : atI ns (k % (ns.length : Int)) = some (ns.getD (k % (ns.length : Int)).toNat 0) := atI_getD 0 (Int.emod_nonneg _ (by omega)) (Int.emod_lt_of_pos _ (by omega))
    apply ss_seq
    apply ss_asg
    · walk_at "sem"
    apply ss_asg
    · walk_at "sem"
    refine main _ rfl ?_ rfl
    unfold cell0
    rw [hne]
    rfl
  · intro hb
    have hne : ns.isEmpty = true := by
      cases ns with
      | nil => rfl
      | cons a r => cases hb
    apply ss_next
    refine main _ rfl ?_ rfl
    unfold cell0
    rw [hne]
    rfl
def signs : List Nat := (Str.ofString "!#$&()*+,-./:;<=>?@\x5b]^{|}~").cps.toList
abbrev PF0 (d : Dat) : Post := { nx := fun _ => d = .non, rt := fun d' => d' = d }
/-! words -/
/-! ### is_of -/
def isOf (t s : List Nat) (m : Int) : Bool := (decide (1 ≤ (t.length : Int)) && decide ((t.length : Int) ≤ m)) && t.all fun c => decide (c ∈ s)
def R_is_of (ds : List Dat) (d : Dat) : Prop := ∃ t s m, ds = [.txt t, .txt s, .int m] ∧ t.length ≤ sizeLine ∧ d = .bl (isOf t s m)
theorem r_is_of {t s : List Nat} {m : Int} (h : t.length ≤ sizeLine) : R_is_of [.txt t, .txt s, .int m] (.bl (isOf t s m)) := ⟨t, s, m, rfl, h, rfl⟩
theorem h_is_of {K : PySem.W.Frag} {W : WX} (ds : List Dat) (d : Dat) (h : R_is_of ds d) : SemS K W (T_is_of K) (slots 4 ds) (PF d) := by
  obtain ⟨t, s, m, rfl, hl, rfl⟩ := h
  apply ss_ret
  · walk_at "sem"
  · rfl
local macro_rules | `(tactic| walk_at "fn") => `(tactic| (apply r_is_of; walk_at "side"))
/-! ### is_fixed -/
def letters : List Nat := (Str.ofString "abcdefghijklmnopqrstuvwxyz").cps.toList
def isFixed (t : List Nat) : Bool := isOf t letters 8 || isOf t signs 3
def fixedD : Dat → Bool
  | .txt t => isFixed t
  | _ => false
def R_is_fixed (ds : List Dat) (d : Dat) : Prop := ∃ x ty, ds = [x] ∧ tyD x = some ty ∧ txtFits x ∧ d = .bl (fixedD x)
theorem r_is_fixedT {t : List Nat} (h : t.length ≤ sizeLine) : R_is_fixed [.txt t] (.bl (isFixed t)) := ⟨_, _, rfl, rfl, h, rfl⟩
theorem h_is_fixed {K : PySem.W.Frag} {W : WX} {gL gM gS gN : V} (hL : ∀ G, DR K G gL (.txt letters)) (hM : ∀ G, DR K G gM (.int 8)) (hS : ∀ G, DR K G gS (.txt signs)) (hN : ∀ G, DR K G gN (.int 3))
    (ds : List Dat) (d : Dat) (h : R_is_fixed ds d) : SemS K W (T_is_fixed K (spD K R_is_of) gL gM gS gN) (slots 1 ds) (PF d) := by
  obtain ⟨x, ty, rfl, ht, hf, rfl⟩ := h
  cases x with
  | txt t =>
    have hf : t.length ≤ sizeLine := hf
    apply ss_ret
    · walk_at "sem"
    · rfl
  | ins C fs => cases ht
  | scr ns => cases ht
  | ty n => cases ht
  | cls n => cases ht
  | exc C fs => cases ht
  | _ =>
    refine ss_ret (s_andB (k := false) (l := false) ?_ (fun h => by cases h)) rfl
    walk_at "sem"
/-! ### is_kind -/
def open3 : List (List Nat) := [(Str.ofString "NAME").cps.toList, (Str.ofString "NUMBER").cps.toList, (Str.ofString "QUOTE").cps.toList]
def quo : List Nat := (Str.ofString "'").cps.toList
def isKind (t : List Nat) : Bool := decide (t ∈ open3) || (decide (cutL t none (some 1) = quo) && isFixed (cutL t (some 1) none))
def kindD : Dat → Bool
  | .txt t => isKind t
  | _ => false
def R_is_kind (ds : List Dat) (d : Dat) : Prop := ∃ x ty, ds = [x] ∧ tyD x = some ty ∧ txtFits x ∧ d = .bl (kindD x)
theorem r_is_kindT {t : List Nat} (h : t.length ≤ sizeLine) : R_is_kind [.txt t] (.bl (isKind t)) := ⟨_, _, rfl, rfl, h, rfl⟩
local macro_rules | `(tactic| walk_at "fn") => `(tactic| (apply r_is_fixedT; walk_at "side"))
theorem h_is_kind {K : PySem.W.Frag} {W : WX} {gO : V} (hO : ∀ G, DR K G gO (.tup (open3.map .txt)))
    (ds : List Dat) (d : Dat) (h : R_is_kind ds d) : SemS K W (T_is_kind K (spD K R_is_fixed) gO) (slots 1 ds) (PF d) := by
  obtain ⟨x, ty, rfl, ht, hf, rfl⟩ := h
  cases x with
  | txt t =>
    have hf : t.length ≤ sizeLine := hf
    have hc := cutL_len t (some 1) none
    apply ss_seq
    apply ss_if
    · walk_at "test"
    · intro h; cases h
    · intro h
      apply ss_next
      apply ss_ret
      · walk_at "sem"
      · rfl
  | ins C fs => cases ht
  | scr ns => cases ht
  | ty n => cases ht
  | cls n => cases ht
  | exc C fs => cases ht
  | _ =>
    apply ss_seq
    apply ss_if
    · walk_at "test"
    · intro h
      apply ss_ret
      · walk_at "sem"
      · rfl
    · intro h; cases h

/-! ### plain rules as data -/
abbrev Tx := List Nat
structure Rule where
  part : Tx
  row : List Tx
  way : Tx
deriving DecidableEq
def rlD (r : Rule) : Dat := .tup [.txt r.part, .tup (r.row.map .txt), .txt r.way]
def tAa : Tx := (Str.ofString "a").cps.toList
def tTop : Tx := (Str.ofString "top").cps.toList
def partsK : List Tx := [[97], [98], [99], [100], [97, 46, 49], [98, 46, 49]]
def kinds8 : List Tx := [(Str.ofString "'x").cps.toList, (Str.ofString "'y").cps.toList, (Str.ofString "'z").cps.toList, (Str.ofString "NAME").cps.toList, (Str.ofString "'w").cps.toList, (Str.ofString "NUMBER").cps.toList, (Str.ofString "'(").cps.toList, (Str.ofString "')").cps.toList]
def symK : List Tx := partsK ++ kinds8
def topR : Rule := ⟨[], [tAa], tTop⟩
structure GenT (r : Rule) : Prop where
  p : r.part ∈ partsK
  s : ∀ x ∈ r.row, x ∈ symK
  l : r.row.length ≤ 6
  w : r.way.length ≤ 10 ∧ Okc r.way
structure Gs (lo hi : Nat) (rs : List Rule) : Prop where
  l : lo ≤ rs.length
  h : rs.length ≤ hi
  t : ∃ tl, rs = topR :: tl ∧ ∀ r ∈ tl, GenT r
  a : 2 ≤ rs.length → ∃ r ∈ rs, r.part = tAa
theorem Gs.start : Gs 1 1 [topR] := ⟨Nat.le_refl _, Nat.le_refl _, ⟨[], rfl, fun _ h => by cases h⟩, fun h => by have : 2 ≤ 1 := h; omega⟩
theorem Gs.snoc {lo hi : Nat} {rs : List Rule} {r : Rule} (h : Gs lo hi rs) (g : GenT r) (ha : 2 ≤ lo ∨ r.part = tAa) : Gs (lo + 1) (hi + 1) (rs ++ [r]) := by
  have hA : ∃ x ∈ rs ++ [r], x.part = tAa := by
    rcases ha with z | z
    · obtain ⟨x, hx, e⟩ := h.a (Nat.le_trans z h.l)
      exact ⟨x, List.mem_append_left _ hx, e⟩
    · exact ⟨r, List.mem_append_right _ (.head _), z⟩
  obtain ⟨tl, rfl, ht⟩ := h.t
  refine ⟨by rw [List.length_append]; have := h.l; simp only [List.length_cons, List.length_nil] at *; omega, by rw [List.length_append]; have := h.h; simp only [List.length_cons, List.length_nil] at *; omega, ⟨tl ++ [r], rfl, fun x hx => ?_⟩, fun _ => hA⟩
  rcases List.mem_append.mp hx with z | z
  · exact ht x z
  · rcases List.mem_singleton.mp z with rfl
    exact g
theorem Gs.mono {lo hi lo' hi' : Nat} {rs : List Rule} (h : Gs lo hi rs) (h1 : lo' ≤ lo) (h2 : hi ≤ hi') : Gs lo' hi' rs := ⟨Nat.le_trans h1 h.l, Nat.le_trans h.h h2, h.t, h.a⟩
theorem getElem_range {n i : Nat} {d : Dat} (h : ((List.range n).map fun k : Nat => Dat.int ((k : Nat) : Int))[i]? = some d) : d = .int (i : Int) ∧ i < n := by
  rw [List.getElem?_map] at h
  cases z : (List.range n)[i]? with
  | none => rw [z] at h; cases h
  | some j =>
    rw [z] at h
    obtain ⟨h1, h2⟩ := List.getElem?_eq_some_iff.mp z
    rw [List.getElem_range] at h2
    rw [List.length_range] at h1
    subst h2
    exact ⟨(Option.some.inj h).symm, h1⟩
theorem take_next {α : Type} {l : List α} {i : Nat} {x : α} (h : l[i]? = some x) : l.take (i + 1) = l.take i ++ [x] := by rw [List.take_succ, h]; rfl
theorem getMap {α : Type} {enc : α → Dat} {l : List α} {i : Nat} {d : Dat} (h : (l.map enc)[i]? = some d) : ∃ y, l[i]? = some y ∧ d = enc y := by
  rw [List.getElem?_map] at h
  cases z : l[i]? with
  | none => rw [z] at h; cases h
  | some y => rw [z] at h; exact ⟨y, rfl, (Option.some.inj h).symm⟩
theorem getD_inL {α : Type} {l : List α} {d : α} {i : Nat} (h : i < l.length) : l.getD i d ∈ l := by
  rw [List.getD_eq_getElem?_getD, List.getElem?_eq_getElem h]
  exact List.getElem_mem h
/-! ### kinds, parts by number -/
def R__law_kinds (ds : List Dat) (d : Dat) : Prop := ds = [] ∧ d = .lst (kinds8.map .txt)
theorem h__law_kinds {K : PySem.W.Frag} {W : WX} (ds : List Dat) (d : Dat) (h : R__law_kinds ds d) : SemS K W (T__law_kinds K) (slots 0 ds) (PF d) := by
  obtain ⟨rfl, rfl⟩ := h
  apply ss_ret
  · walk_at "sem"
  · rfl
section
variable {K : PySem.W.Frag} {ρ : List Sl} {ti te : TE}
theorem s_kindAt {i : Int} (h : Sem K ti ρ (.int i)) (h0 : 0 ≤ i) (h1 : i < 8) : Sem K (tOp (rIx K) (tCall (spD K R__law_kinds) [] E0 tNil) ti) ρ (.txt (kinds8.getD i.toNat [])) :=
  s_op (s_call sa_nil ⟨rfl, rfl⟩) h (os_ixL (atI_mapD _ [] h0 h1))
theorem kindAt_in {i : Int} (h0 : 0 ≤ i) (h1 : i < 8) : kinds8.getD i.toNat [] ∈ symK := List.mem_append_right _ (getD_inL (by show _ < 8; omega))
theorem abcd_in {i : Int} (h0 : 0 ≤ i) (h1 : i < 4) : [[97, 98, 99, 100].getD i.toNat 0] ∈ partsK := by
  have : i = 0 ∨ i = 1 ∨ i = 2 ∨ i = 3 := by omega
  rcases this with rfl | rfl | rfl | rfl <;> decide
theorem s_partAt {i : Int} (h : Sem K ti ρ (.int i)) (h0 : 0 ≤ i) (h1 : i < 4) : Sem K (tOp (rIx K) (tC (.str (Str.ofString "abcd"))) ti) ρ (.txt [[97, 98, 99, 100].getD i.toNat 0]) :=
  s_op (a := .txt [97, 98, 99, 100]) s_str h (os_ixT (atI_getD 0 h0 h1) (by show 4 ≤ sizeLine; decide))
theorem symP {x : Tx} (h : x ∈ partsK) : x ∈ symK := List.mem_append_left _ h
end
def ones4 : List Tx := [(Str.ofString "one").cps.toList, (Str.ofString "two").cps.toList, (Str.ofString "three").cps.toList, (Str.ofString "four").cps.toList]
theorem ones_ok {i : Nat} (h : i < 4) : (58 :: ones4.getD i []).length ≤ 10 ∧ Okc (58 :: ones4.getD i []) := by
  have : i = 0 ∨ i = 1 ∨ i = 2 ∨ i = 3 := by omega
  rcases this with rfl | rfl | rfl | rfl <;> (refine ⟨by decide, ?_⟩; unfold Okc; decide)
/-! ### the four sorts -/
def D_rules (ds : List Dat) : Prop := ∃ (ns : List Int) (f : Int), ds = [.scr ns, .int f] ∧ ns.length ≤ 63 ∧ 0 ≤ f ∧ f ≤ 100000
def R_rules (ds : List Dat) (d : Dat) : Prop := ∃ rs, d = .lst (rs.map rlD) ∧ Gs 2 17 rs
local macro_rules | `(tactic| walk_at "fn") => `(tactic| (apply r__law_cell; (· walk_at "side"); (· walk_at "side"); (· walk_at "side")))
theorem s_top {K : PySem.W.Frag} {ρ : List Sl} : SemN K (tLst (tCons (tTup (tCons (tC (.str (Str.ofString ""))) (tCons (tTup (tCons (tC (.str (Str.ofString "a"))) tNil)) (tCons (tC (.str (Str.ofString "top"))) tNil)))) tNil)) ρ [rlD topR] :=
  sn_lst (sa_cons (s_tup (sa_cons (a := .txt []) s_str (sa_cons (a := .tup [.txt tAa]) (s_tup (sa_cons s_str sa_nil) (by show 1 ≤ sizeLine; decide)) (sa_cons (a := .txt tTop) s_str sa_nil))) (by show 3 ≤ sizeLine; decide)) sa_nil) (by show 1 ≤ sizeLine; decide)
set_option maxHeartbeats 2000000 in
theorem h__law_begun_rules {K : PySem.W.Frag} {W : WX} (ds : List Dat) (h : D_rules ds) : SemS K W (T__law_begun_rules K (spD K R__law_cell) (spD K R__law_kinds)) (slots 12 ds) (PY (R_rules ds)) := by
  obtain ⟨ns, f, rfl, hn, f0, f1⟩ := h
  have hS : sizeLine = 16777216 := rfl
  have cl := cellF_lo ns
  have ch := cellF_hi ns
  apply ss_seq
  refine ss_asg (d := .int (1 + cellF ns (f + 1) % 4)) (by walk_at "sem") ?_
  obtain ⟨m, em, m0, m1⟩ : ∃ m : Int, m = 1 + cellF ns (f + 1) % 4 ∧ 1 ≤ m ∧ m ≤ 4 := ⟨_, rfl, by have := cl (f + 1); omega, by omega⟩
  rw [← em]
  apply ss_seq
  refine ss_asgN s_top ?_
  apply ss_seq
  refine ss_for (ds := (List.range m.toNat).map fun k : Nat => .int ((k : Nat) : Int)) (si_range1Z (by walk_at "sems") (by omega) (by omega))
    (fun i ρ => ∃ rs s4 s5 s6 s7 s8 s9 s10 s11, ρ = [.dat (.scr ns), .dat (.int f), .dat (.int m), .own (rs.map rlD), s4, s5, s6, s7, s8, s9, s10, s11] ∧ Gs (1 + i) (1 + 4 * i) rs)
    ⟨[topR], _, _, _, _, _, _, _, _, rfl, Gs.start⟩ ?_ ?_
  · rintro p d ρ1 hd ⟨rs, s4, s5, s6, s7, s8, s9, s10, s11, rfl, hg⟩
    obtain ⟨rfl, hp⟩ := getElem_range hd
    have hp4 : p < 4 := by omega
    refine ⟨_, sg_name, ?_⟩
    apply ss_seq
    refine ss_asg (s_partAt (s_var rfl) (by omega) (by omega)) ?_
    have hpin := abcd_in (i := (p : Int)) (by omega) (by omega)
    have hpA : p = 0 → [[97, 98, 99, 100].getD (p : Int).toNat 0] = tAa := fun e => by subst e; decide
    generalize [[97, 98, 99, 100].getD (p : Int).toNat 0] = part at hpin hpA ⊢
    apply ss_seq
    refine ss_asg (d := .int (1 + cellF ns (f + 2 + (p : Int)) % 3 + (if decide ((p : Int) + 1 < m) then 1 else 0))) (s_op (s_op s_int (s_op (s_call (sa_cons (s_var rfl) (sa_cons (s_op (s_op (s_var rfl) s_int os_addI) (s_var rfl) os_addI) sa_nil)) (r__law_cell hn (by omega) (by omega))) s_int (os_mod (by decide))) os_addI) (s_cb (sa_cons (s_op (s_op (s_var rfl) s_int os_addI) (s_var rfl) os_lt) sa_nil) cs_intB) os_addI) ?_
    obtain ⟨c, ec, c0, c1⟩ : ∃ c : Int, c = 1 + cellF ns (f + 2 + (p : Int)) % 3 + (if decide ((p : Int) + 1 < m) then 1 else 0) ∧ 1 ≤ c ∧ c ≤ 4 := ⟨_, rfl, by have := cl (f + 2 + (p : Int)); split <;> omega, by split <;> omega⟩
    rw [← ec]
    apply ss_seq
    refine ss_asg (d := .int (cellF ns (f + 6 + (p : Int)) % 6)) (s_op (s_call (sa_cons (s_var rfl) (sa_cons (s_op (s_op (s_var rfl) s_int os_addI) (s_var rfl) os_addI) sa_nil)) (r__law_cell hn (by omega) (by omega))) s_int (os_mod (by decide))) ?_
    obtain ⟨tu, et, t0, t1⟩ : ∃ t : Int, t = cellF ns (f + 6 + (p : Int)) % 6 ∧ 0 ≤ t ∧ t < 6 := ⟨_, rfl, by omega, by omega⟩
    rw [← et]
    refine ss_for (ds := (List.range c.toNat).map fun k : Nat => .int ((k : Nat) : Int)) (si_range1Z (sa_cons (s_var rfl) sa_nil) (by omega) (by omega))
      (fun i ρ => ∃ rs s8 s9 s10 s11, ρ = [.dat (.scr ns), .dat (.int f), .dat (.int m), .own (rs.map rlD), .dat (.int (p : Int)), .dat (.txt part), .dat (.int c), .dat (.int tu), s8, s9, s10, s11] ∧ Gs (1 + p + i) (1 + 4 * p + i) rs)
      ⟨rs, s8, s9, s10, s11, rfl, hg⟩ ?_ ?_
    · rintro r d ρ1 hd ⟨rs, s8, s9, s10, s11, rfl, hg⟩
      obtain ⟨rfl, hr⟩ := getElem_range hd
      have hr4 : r < 4 := by omega
      refine ⟨_, sg_name, ?_⟩
      apply ss_seq
      refine ss_asgN (ds := [.txt (kinds8.getD ((tu + (r : Int)) % 6).toNat [])]) (sn_lst (sa_cons (s_kindAt (i := (tu + (r : Int)) % 6) (s_op (s_op (s_var rfl) (s_var rfl) os_addI) s_int (os_mod (by decide))) (by omega) (by omega)) sa_nil) (by show 1 ≤ sizeLine; decide)) ?_
      have k0 := kindAt_in (i := (tu + (r : Int)) % 6) (by omega) (by omega)
      generalize kinds8.getD ((tu + (r : Int)) % 6).toNat [] = kd at k0 ⊢
      refine ss_seqJ (fun ρ' => ∃ row : List Tx, ρ' = [.dat (.scr ns), .dat (.int f), .dat (.int m), .own (rs.map rlD), .dat (.int (p : Int)), .dat (.txt part), .dat (.int c), .dat (.int tu), .dat (.int (r : Int)), .own (row.map .txt), s10, s11] ∧ (∀ x ∈ row, x ∈ symK) ∧ row.length ≤ 2) ?_ ?_
      · refine ss_if (k := decide ((r : Int) = 1) && decide ((p : Int) + 1 < m)) (st_and (st_test (s_op (s_var rfl) s_int os_eqI)) fun _ => st_test (s_op (s_op (s_var rfl) s_int os_addI) (s_var rfl) os_lt)) (fun hk => ?_) fun _ => ss_next ⟨[kd], rfl, fun x hx => by rw [List.mem_singleton.mp hx]; exact k0, by show 1 ≤ 2; decide⟩
        have hk2 := of_decide_eq_true (Bool.and_eq_true_iff.mp hk).2
        have y3 := abcd_in (i := (p : Int) + 1) (by omega) (by omega)
        refine ss_app (i := 9) (ds := [.txt kd]) rfl (s_partAt (s_op (s_var rfl) s_int os_addI) (by omega) (by omega)) (by show 1 < sizeLine; decide) ?_
        generalize [[97, 98, 99, 100].getD ((p : Int) + 1).toNat 0] = w3 at y3 ⊢
        refine ⟨[kd, w3], rfl, fun x hx => ?_, by show 2 ≤ 2; decide⟩
        rcases List.mem_cons.mp hx with z | z
        · rw [z]; exact k0
        · rw [List.mem_singleton.mp z]; exact symP y3
      · rintro ρ' ⟨row, rfl, hrow, hl⟩
        apply ss_seq
        refine ss_for (ds := (List.range (cellF ns (f + 20 + 10 * (p : Int) + (r : Int)) % 4 * (if decide ((r : Int) > 0) then 1 else 0)).toNat).map fun k : Nat => .int ((k : Nat) : Int)) (si_range1Z (sa_cons (s_op (s_op (s_call (sa_cons (s_var rfl) (sa_cons (s_op (s_op (s_op (s_var rfl) s_int os_addI) (s_op s_int (s_var rfl) (os_mul (by walk_at "mul"))) os_addI) (s_var rfl) os_addI) sa_nil)) (r__law_cell hn (by omega) (by omega))) s_int (os_mod (by decide))) (s_cb (sa_cons (s_op (s_var rfl) s_int os_gt) sa_nil) cs_intB) (os_mul (by split <;> walk_at "mul"))) sa_nil) (by split <;> omega) (by split <;> omega))
          (fun i ρ => ∃ (row : List Tx) (s10 s11 : Sl), ρ = [.dat (.scr ns), .dat (.int f), .dat (.int m), .own (rs.map rlD), .dat (.int (p : Int)), .dat (.txt part), .dat (.int c), .dat (.int tu), .dat (.int (r : Int)), .own (row.map .txt), s10, s11] ∧ (∀ x ∈ row, x ∈ symK) ∧ row.length ≤ 2 + i)
          ⟨row, s10, s11, rfl, hrow, hl⟩ ?_ ?_
        · rintro j d ρ1 hd ⟨row, s10, s11, rfl, hrow, hl⟩
          obtain ⟨rfl, hj⟩ := getElem_range hd
          have hj4 : j < 4 := by
            have : cellF ns (f + 20 + 10 * (p : Int) + (r : Int)) % 4 < 4 := by omega
            split at hj <;> omega
          refine ⟨_, sg_name, ?_⟩
          apply ss_seq
          refine ss_asg (d := .int (cellF ns (f + 60 + 20 * (p : Int) + 4 * (r : Int) + (j : Int)))) (s_call (sa_cons (s_var rfl) (sa_cons (s_op (s_op (s_op (s_op (s_var rfl) s_int os_addI) (s_op s_int (s_var rfl) (os_mul (by walk_at "mul"))) os_addI) (s_op s_int (s_var rfl) (os_mul (by walk_at "mul"))) os_addI) (s_var rfl) os_addI) sa_nil)) (r__law_cell hn (by omega) (by omega))) ?_
          have q0 := cl (f + 60 + 20 * (p : Int) + 4 * (r : Int) + (j : Int))
          generalize cellF ns (f + 60 + 20 * (p : Int) + 4 * (r : Int) + (j : Int)) = mo at q0 ⊢
          have z0 : 0 ≤ mo / 2 % m := Int.emod_nonneg _ (by omega)
          have z1 : mo / 2 % m < m := Int.emod_lt_of_pos _ (by omega)
          have y1 := abcd_in (i := mo / 2 % m) z0 (by omega)
          have y2 := kindAt_in (i := mo / 2 % 6) (by omega) (by omega)
          have x1 : ∀ {ρ : List Sl}, ρ[11]? = some (.dat (.int mo)) → ρ[2]? = some (.dat (.int m)) → Sem K (tOp (rIx K) (tC (.str (Str.ofString "abcd"))) (tOp uMod (tOp uDiv (tVar 11) (tC (.int 2))) (tVar 2))) ρ (.txt [[97, 98, 99, 100].getD (mo / 2 % m).toNat 0]) := fun h1 h2 => s_partAt (s_op (s_op (s_var h1) s_int (os_div (by decide))) (s_var h2) (os_mod (by omega))) z0 (by omega)
          have x2 : ∀ {ρ : List Sl}, ρ[11]? = some (.dat (.int mo)) → Sem K (tOp (rIx K) (tCall (spD K R__law_kinds) [] E0 tNil) (tOp uMod (tOp uDiv (tVar 11) (tC (.int 2))) (tC (.int 6)))) ρ (.txt (kinds8.getD (mo / 2 % 6).toNat [])) := fun h1 => s_kindAt (s_op (s_op (s_var h1) s_int (os_div (by decide))) s_int (os_mod (by decide))) (by omega) (by omega)
          generalize [[97, 98, 99, 100].getD (mo / 2 % m).toNat 0] = w1 at y1 x1
          generalize kinds8.getD (mo / 2 % 6).toNat [] = w2 at y2 x2
          have hx : atI ([w1, w2].map Dat.txt) (mo % 2) = some (.txt ([w1, w2].getD (mo % 2).toNat [])) := atI_mapD _ [] (by omega) (by show _ < (2 : Int); omega)
          have hin : [w1, w2].getD (mo % 2).toNat [] ∈ symK := by
            have : [w1, w2].getD (mo % 2).toNat [] ∈ [w1, w2] := getD_inL (by show _ < 2; omega)
            rcases List.mem_cons.mp this with z | z
            · rw [z]; exact symP y1
            · rw [List.mem_singleton.mp z]; exact y2
          refine ss_app (d := .txt ([w1, w2].getD (mo % 2).toNat [])) rfl (s_op (a := .lst ([w1, w2].map .txt)) (s_lst (sa_cons (x1 rfl rfl) (sa_cons (x2 rfl) sa_nil)) (by show 2 ≤ sizeLine; decide)) (s_op (s_var rfl) s_int (os_mod (by decide))) (os_ixL hx)) (by rw [List.length_map]; omega) ?_
          refine ⟨row ++ [[w1, w2].getD (mo % 2).toNat []], .dat (.int (j : Int)), .dat (.int mo), by rw [List.map_append]; rfl, fun x hx => ?_, by rw [List.length_append]; show _ + 1 ≤ _; omega⟩
          rcases List.mem_append.mp hx with z | z
          · exact hrow x z
          · rw [List.mem_singleton.mp z]; exact hin
        · rintro ρ1 ⟨row, s10, s11, rfl, hrow, hl⟩
          rw [List.length_map, List.length_range] at hl
          have hl6 : row.length ≤ 5 := by
            have : cellF ns (f + 20 + 10 * (p : Int) + (r : Int)) % 4 < 4 := by omega
            split at hl <;> omega
          refine ss_freeze 9 (ds := row.map .txt) rfl ?_
          have hx : atI (ones4.map Dat.txt) (r : Int) = some (.txt (ones4.getD (r : Int).toNat [])) := atI_mapD _ [] (by omega) (by show _ < (4 : Int); omega)
          obtain ⟨w1, w2⟩ := ones_ok (i := (r : Int).toNat) (by omega)
          refine ss_app (d := rlD ⟨part, row, 58 :: ones4.getD (r : Int).toNat []⟩) rfl (s_tup (sa_cons (s_var rfl) (sa_cons (s_cb (sa_cons (s_var rfl) sa_nil) (cs_tuple rfl)) (sa_cons (s_op (a := .txt [58]) s_str (s_op (a := .lst (ones4.map .txt)) (by walk_at "sem") (s_var rfl) (os_ixL hx)) (os_addT (by simp only [List.length_cons] at w1 ⊢; show 1 + _ ≤ _; omega))) sa_nil))) (by show 3 ≤ sizeLine; decide)) (by rw [List.length_map]; have := hg.h; omega) ?_
          refine ⟨rs ++ [⟨part, row, 58 :: ones4.getD (r : Int).toNat []⟩], _, _, _, _, by rw [List.map_append]; rfl, ?_⟩
          exact (hg.snoc ⟨hpin, hrow, by show row.length ≤ 6; omega, w1, w2⟩ (by
            by_cases e : p = 0
            · exact .inr (hpA e)
            · exact .inl (by omega))).mono (by omega) (by omega)
    · rintro ρ1 ⟨rs, s8, s9, s10, s11, rfl, hg⟩
      rw [List.length_map, List.length_range] at hg
      exact ⟨rs, _, _, _, _, _, _, _, _, rfl, hg.mono (by omega) (by omega)⟩
  · rintro ρ1 ⟨rs, s4, s5, s6, s7, s8, s9, s10, s11, rfl, hg⟩
    rw [List.length_map, List.length_range] at hg
    refine ss_freeze 3 (ds := rs.map rlD) rfl ?_
    exact ss_ret (s_var rfl) ⟨rs, rfl, hg.mono (by omega) (by omega)⟩

local macro_rules | `(tactic| walk_at "fn") => `(tactic| (apply r__law_cell; (· walk_at "side"); (· walk_at "side"); (· walk_at "side")))
theorem sn_addL {K : PySem.W.Frag} {ρ : List Sl} {ta tb : TE} {a b : List Dat} (ha : Sem K ta ρ (.lst a)) (hb : Sem K tb ρ (.lst b)) (h : a.length + b.length ≤ sizeLine) : SemN K (tOp (uAdd K) ta tb) ρ (a ++ b) := fun G0 B0 σ G H S Q q =>
  ha _ _ _ _ _ S _ fun x G1 H1 g1 rx => hb _ _ _ _ _ (S.grow g1) _ fun y G2 H2 g2 ry => by
    have rx := rx.mono g2.g
    cases rx with
    | lst h1 r1 =>
      cases ry with
      | lst h2 r2 =>
        exact .inr (.inr (.inl ⟨_, _, _, _, rfl, rfl, g2.s _ _ h1, g2.s _ _ h2, by rw [r1.length, r2.length]; exact h, fun p hp => q p _ G2 _ ((g1.trans g2).trans (Grow.newM g2.s hp)) (Evl.fresh_back (g1.trans g2).h hp) (Evl.fresh_back g2.s hp) upd_same (r1.append r2)⟩))
def okTx (t : Tx) : Bool := decide (t.length ≤ 10) && t.all (fun c => decide (c < 1114112))
theorem gT {pa : Tx} {row : List Tx} {w : Tx} (hp : pa ∈ partsK) (h1 : ∀ x ∈ row, x ∈ symK) (h2 : row.length ≤ 6) (hw : okTx w = true) : GenT ⟨pa, row, w⟩ := by
  unfold okTx at hw
  simp only [Bool.and_eq_true, decide_eq_true_eq, List.all_eq_true] at hw
  exact ⟨hp, h1, h2, hw.1, hw.2⟩
def tw : Tx := (Str.ofString "'w").cps.toList
def rw6 (pa w ti : Tx) : List (List Tx) := [[pa, w, ti], [ti, w, pa], [ti, w, ti], [w, pa], [pa, w], [pa, w, ti, tw, ti]]
theorem rw6_ok {pa w ti : Tx} (h1 : pa ∈ symK) (h2 : w ∈ symK) (h3 : ti ∈ symK) {i : Nat} (hi : i < 6) : (∀ x ∈ (rw6 pa w ti).getD i [], x ∈ symK) ∧ ((rw6 pa w ti).getD i []).length ≤ 5 := by
  have h4 : tw ∈ symK := by decide
  have : i = 0 ∨ i = 1 ∨ i = 2 ∨ i = 3 ∨ i = 4 ∨ i = 5 := by omega
  have all3 : ∀ l : List Tx, (∀ x ∈ l, x = pa ∨ x = w ∨ x = ti ∨ x = tw) → ∀ x ∈ l, x ∈ symK := fun l hl x hx => by
    rcases hl x hx with z | z | z | z <;> (rw [z]; assumption)
  rcases this with rfl | rfl | rfl | rfl | rfl | rfl
  · exact ⟨all3 [pa, w, ti] (by simp), by show 3 ≤ 5; decide⟩
  · exact ⟨all3 [ti, w, pa] (by simp), by show 3 ≤ 5; decide⟩
  · exact ⟨all3 [ti, w, ti] (by simp), by show 3 ≤ 5; decide⟩
  · exact ⟨all3 [w, pa] (by simp), by show 2 ≤ 5; decide⟩
  · exact ⟨all3 [pa, w] (by simp), by show 2 ≤ 5; decide⟩
  · exact ⟨all3 [pa, w, ti, tw, ti] (by simp), by show 5 ≤ 5; decide⟩
def okW (s : String) : Prop := (Str.ofString s).cps.toList.length ≤ 10 ∧ Okc (Str.ofString s).cps.toList
set_option maxHeartbeats 2000000 in
theorem h__law_level_rules {K : PySem.W.Frag} {W : WX} (ds : List Dat) (h : D_rules ds) : SemS K W (T__law_level_rules K (spD K R__law_cell) (spD K R__law_kinds)) (slots 11 ds) (PY (R_rules ds)) := by
  obtain ⟨ns, f, rfl, hn, f0, f1⟩ := h
  have hS : sizeLine = 16777216 := rfl
  have cl := cellF_lo ns
  have ch := cellF_hi ns
  apply ss_seq
  refine ss_asg (d := .int (1 + cellF ns (f + 1) % 3)) (by walk_at "sem") ?_
  obtain ⟨m, em, m0, m1⟩ : ∃ m : Int, m = 1 + cellF ns (f + 1) % 3 ∧ 1 ≤ m ∧ m ≤ 3 := ⟨_, rfl, by have := cl (f + 1); omega, by omega⟩
  rw [← em]
  apply ss_seq
  refine ss_asgN s_top ?_
  apply ss_seq
  refine ss_for (ds := (List.range m.toNat).map fun k : Nat => .int ((k : Nat) : Int)) (si_range1Z (by walk_at "sems") (by omega) (by omega))
    (fun i ρ => ∃ rs s4 s5 s6 s7 s8 s9 s10, ρ = [.dat (.scr ns), .dat (.int f), .dat (.int m), .own (rs.map rlD), s4, s5, s6, s7, s8, s9, s10] ∧ Gs (1 + 2 * i) (1 + 2 * i) rs)
    ⟨[topR], _, _, _, _, _, _, _, rfl, Gs.start⟩ ?_ ?_
  · rintro p d ρ1 hd ⟨rs, s4, s5, s6, s7, s8, s9, s10, rfl, hg⟩
    obtain ⟨rfl, hp⟩ := getElem_range hd
    have hp3 : p < 3 := by omega
    refine ⟨_, sg_name, ?_⟩
    apply ss_seq
    refine ss_asg (s_partAt (s_var rfl) (by omega) (by omega)) ?_
    have y1 := abcd_in (i := (p : Int)) (by omega) (by omega)
    have hpA : p = 0 → [[97, 98, 99, 100].getD (p : Int).toNat 0] = tAa := fun e => by subst e; decide
    generalize [[97, 98, 99, 100].getD (p : Int).toNat 0] = pa at y1 hpA ⊢
    apply ss_seq
    refine ss_asg (s_partAt (i := (p : Int) + 1) (s_op (s_var rfl) s_int os_addI) (by omega) (by omega)) ?_
    have y2 := abcd_in (i := (p : Int) + 1) (by omega) (by omega)
    generalize [[97, 98, 99, 100].getD ((p : Int) + 1).toNat 0] = ti at y2 ⊢
    apply ss_seq
    refine ss_asg (s_kindAt (i := (p : Int)) (s_var rfl) (by omega) (by omega)) ?_
    have y3 := kindAt_in (i := (p : Int)) (by omega) (by omega)
    generalize kinds8.getD (p : Int).toNat [] = w at y3 ⊢
    apply ss_seq
    refine ss_asg (d := .int (cellF ns (f + 2 + (p : Int)) % 6)) (s_op (s_call (sa_cons (s_var rfl) (sa_cons (s_op (s_op (s_var rfl) s_int os_addI) (s_var rfl) os_addI) sa_nil)) (r__law_cell hn (by omega) (by omega))) s_int (os_mod (by decide))) ?_
    obtain ⟨tu, et, t0, t1⟩ : ∃ t : Int, t = cellF ns (f + 2 + (p : Int)) % 6 ∧ 0 ≤ t ∧ t < 6 := ⟨_, rfl, by omega, by omega⟩
    rw [← et]
    apply ss_seq
    refine ss_asgN (ds := ([[pa, w, ti], [ti, w, pa], [ti, w, ti], [w, pa], [pa, w]] : List (List Tx)).map fun r => .tup (r.map .txt)) (sn_lst (by walk_at "sems") (by show 5 ≤ sizeLine; decide)) ?_
    apply ss_seq
    refine ss_app (d := .tup ([pa, w, ti, tw, ti].map .txt)) rfl (by walk_at "sem") (by show 5 < sizeLine; decide) ?_
    refine ss_freeze 9 (ds := (rw6 pa w ti).map fun r => .tup (r.map .txt)) rfl ?_
    obtain ⟨z1, z2⟩ := rw6_ok (symP y1) y3 (symP y2) (i := tu.toNat) (by omega)
    have hx : atI ((rw6 pa w ti).map fun r => Dat.tup (r.map .txt)) tu = some (.tup (((rw6 pa w ti).getD tu.toNat []).map .txt)) := atI_mapD (fun r : List Tx => Dat.tup (r.map .txt)) [] t0 (by show _ < (6 : Int); omega)
    apply ss_seq
    refine ss_app (d := rlD ⟨pa, (rw6 pa w ti).getD tu.toNat [], (Str.ofString ":one").cps.toList⟩) rfl (s_tup (sa_cons (s_var rfl) (sa_cons (s_op (s_var rfl) (s_var rfl) (os_ixL hx)) (sa_cons s_str sa_nil))) (by show 3 ≤ sizeLine; decide)) (by rw [List.length_map]; have := hg.h; omega) ?_
    generalize (rw6 pa w ti).getD tu.toNat [] = row at z1 z2 ⊢
    have hg1 := hg.snoc (r := ⟨pa, row, (Str.ofString ":one").cps.toList⟩) (gT y1 z1 (by omega) (by decide +kernel)) (by
      by_cases e : p = 0
      · exact .inr (hpA e)
      · exact .inl (by omega))
    have e1 : rs.map rlD ++ [rlD ⟨pa, row, (Str.ofString ":one").cps.toList⟩] = (rs ++ [(⟨pa, row, (Str.ofString ":one").cps.toList⟩ : Rule)]).map rlD := by rw [List.map_append]; rfl
    rw [e1]
    generalize rs ++ [(⟨pa, row, (Str.ofString ":one").cps.toList⟩ : Rule)] = rs1 at hg1 ⊢
    refine ss_app (d := rlD ⟨pa, [ti], (Str.ofString "up").cps.toList⟩) rfl (by walk_at "sem") (by rw [List.length_map]; have := hg1.h; omega) ?_
    refine ⟨rs1 ++ [⟨pa, [ti], (Str.ofString "up").cps.toList⟩], _, _, _, _, _, _, _, by rw [List.map_append]; rfl, ?_⟩
    exact (hg1.snoc (gT y1 (fun x hx => by rw [List.mem_singleton.mp hx]; exact symP y2) (by show 1 ≤ 6; decide) (by decide +kernel)) (.inl (by omega))).mono (by omega) (by omega)
  · rintro ρ1 ⟨rs, s4, s5, s6, s7, s8, s9, s10, rfl, hg⟩
    rw [List.length_map, List.length_range] at hg
    have hg := hg.mono (lo' := 3) (hi' := 7) (by omega) (by omega)
    apply ss_seq
    refine ss_asg (s_partAt (i := m) (s_var rfl) (by omega) (by omega)) ?_
    have y1 := abcd_in (i := m) (by omega) (by omega)
    generalize [[97, 98, 99, 100].getD m.toNat 0] = la at y1 ⊢
    apply ss_seq
    refine ss_app (d := rlD ⟨la, [(Str.ofString "NAME").cps.toList], (Str.ofString ":name").cps.toList⟩) rfl (by walk_at "sem") (by rw [List.length_map]; have := hg.h; omega) ?_
    have hg1 := hg.snoc (r := ⟨la, [(Str.ofString "NAME").cps.toList], (Str.ofString ":name").cps.toList⟩) (gT y1 (by decide +kernel) (by show 1 ≤ 6; decide) (by decide +kernel)) (.inl (by omega))
    have e1 : rs.map rlD ++ [rlD ⟨la, [(Str.ofString "NAME").cps.toList], (Str.ofString ":name").cps.toList⟩] = (rs ++ [(⟨la, [(Str.ofString "NAME").cps.toList], (Str.ofString ":name").cps.toList⟩ : Rule)]).map rlD := by rw [List.map_append]; rfl
    rw [e1]
    generalize rs ++ [(⟨la, [(Str.ofString "NAME").cps.toList], (Str.ofString ":name").cps.toList⟩ : Rule)] = rs1 at hg1 ⊢
    have cell9 : ∀ {ρ : List Sl}, ρ[0]? = some (.dat (.scr ns)) → ρ[1]? = some (.dat (.int f)) → Sem K (tCall (spD K R__law_cell) [] E0 (tCons (tVar 0) (tCons (tOp (uAdd K) (tVar 1) (tC (.int 9))) tNil))) ρ (.int (cellF ns (f + 9))) := fun h0 h1 => s_call (sa_cons (s_var h0) (sa_cons (s_op (s_var h1) s_int os_addI) sa_nil)) (r__law_cell hn (by omega) (by omega))
    refine ss_seqJ (fun ρ => ∃ rs, ρ = [.dat (.scr ns), .dat (.int f), .dat (.int m), .own (rs.map rlD), s4, s5, s6, s7, s8, s9, .dat (.txt la)] ∧ Gs 4 9 rs) ?_ ?_
    · refine ss_if (st_test (s_op (s_op (cell9 rfl rfl) s_int (os_mod (by decide))) s_int os_eqI)) (fun _ => ?_) fun _ => ss_next ⟨rs1, rfl, hg1.mono (by omega) (by omega)⟩
      refine ss_app (d := rlD ⟨la, [(Str.ofString "'(").cps.toList, tAa, (Str.ofString "')").cps.toList], (Str.ofString "in").cps.toList⟩) rfl (by walk_at "sem") (by rw [List.length_map]; have := hg1.h; omega) ?_
      refine ⟨rs1 ++ [⟨la, [(Str.ofString "'(").cps.toList, tAa, (Str.ofString "')").cps.toList], (Str.ofString "in").cps.toList⟩], by rw [List.map_append]; rfl, ?_⟩
      exact (hg1.snoc (gT y1 (by decide +kernel) (by show 3 ≤ 6; decide) (by decide +kernel)) (.inl (by omega))).mono (by omega) (by omega)
    · rintro ρ' ⟨rs2, rfl, hg2⟩
      refine ss_seqJ (fun ρ => ∃ rs, ρ = [.dat (.scr ns), .dat (.int f), .dat (.int m), .own (rs.map rlD), s4, s5, s6, s7, s8, s9, .dat (.txt la)] ∧ Gs 4 10 rs) ?_ ?_
      · refine ss_if (st_test (s_op (s_op (s_op (cell9 rfl rfl) s_int (os_div (by decide))) s_int (os_mod (by decide))) s_int os_eqI)) (fun _ => ?_) fun _ => ss_next ⟨rs2, rfl, hg2.mono (by omega) (by omega)⟩
        refine ss_app (d := rlD ⟨la, [], (Str.ofString ":none").cps.toList⟩) rfl (by walk_at "sem") (by rw [List.length_map]; have := hg2.h; omega) ?_
        refine ⟨rs2 ++ [⟨la, [], (Str.ofString ":none").cps.toList⟩], by rw [List.map_append]; rfl, ?_⟩
        exact (hg2.snoc (gT y1 (by decide +kernel) (by show 0 ≤ 6; decide) (by decide +kernel)) (.inl (by omega))).mono (by omega) (by omega)
      · rintro ρ' ⟨rs3, rfl, hg3⟩
        refine ss_freeze 3 (ds := rs3.map rlD) rfl ?_
        exact ss_ret (s_var rfl) ⟨rs3, rfl, hg3.mono (by omega) (by omega)⟩
/-! ### lists and what is left out -/
def tx (s : String) : Tx := (Str.ofString s).cps.toList
def lrA : List Rule := [topR, ⟨tx "a", [tx "'x", tx "b", tx "'x"], tx ":one"⟩, ⟨tx "a", [tx "'y", tx "b", tx "'y"], tx ":two"⟩, ⟨tx "a", [tx "'x", tx "c", tx "'y"], tx ":three"⟩, ⟨tx "a", [tx "'y", tx "c", tx "'x"], tx ":four"⟩, ⟨tx "b", [tx "'z"], tx ":one"⟩, ⟨tx "c", [tx "'z"], tx ":one"⟩]
def lrB : List Rule := [topR, ⟨tx "a", [tx "'x", tx "a.1", tx "b"], tx ":one"⟩, ⟨tx "a.1", [], tx "none"⟩]
def rowsA : List (List Tx) := [[tx "'y"], [tx "'y", tx "NAME"], [tx "'w", tx "b"]]
def rowsB : List (List Tx) := [[tx "b.1"], [tx "b.1", tx "'z"], [tx "'z", tx "b.1"]]
def rowsC : List (List Tx) := [[tx "NUMBER"], [tx "'(", tx "a", tx "')"], [tx "NUMBER", tx "'w"]]
def genB (r : Rule) : Bool := decide (r.part ∈ partsK) && r.row.all (fun x => decide (x ∈ symK)) && decide (r.row.length ≤ 6) && decide (r.way.length ≤ 10) && r.way.all (fun c => decide (c < 1114112))
theorem genB_ok {r : Rule} (h : genB r = true) : GenT r := by
  unfold genB at h
  simp only [Bool.and_eq_true, decide_eq_true_eq, List.all_eq_true] at h
  exact ⟨h.1.1.1.1, h.1.1.1.2, h.1.1.2, h.1.2, h.2⟩
theorem lrA_ok : Gs 2 17 lrA := ⟨by decide, by decide, ⟨_, rfl, fun r hr => by
  have : ∀ r ∈ lrA.tail, genB r = true := by decide +kernel
  exact genB_ok (this r hr)⟩, fun _ => ⟨⟨tx "a", [tx "'x", tx "b", tx "'x"], tx ":one"⟩, .tail _ (.head _), rfl⟩⟩
theorem lrB_ok : Gs 3 3 lrB := ⟨by decide, by decide, ⟨_, rfl, fun r hr => by
  have : ∀ r ∈ lrB.tail, genB r = true := by decide +kernel
  exact genB_ok (this r hr)⟩, fun _ => ⟨⟨tx "a", [tx "'x", tx "a.1", tx "b"], tx ":one"⟩, .tail _ (.head _), rfl⟩⟩
theorem idx3 {l : List (List Tx)} (hl : l.length = 3) {i : Int} (h0 : 0 ≤ i) (h1 : i < 3) : atI (l.map fun r => Dat.tup (r.map .txt)) i = some (.tup ((l.getD i.toNat []).map .txt)) := atI_mapD (fun r : List Tx => Dat.tup (r.map .txt)) [] h0 (by omega)
theorem of3 {l : List (List Tx)} {P : List Tx → Prop} (hl : l.length = 3) (h : ∀ r ∈ l, P r) {i : Int} (h0 : 0 ≤ i) (h1 : i < 3) : P (l.getD i.toNat []) := h _ (getD_inL (by omega))
set_option maxHeartbeats 4000000 in
theorem h__law_list_rules {K : PySem.W.Frag} {W : WX} (ds : List Dat) (h : D_rules ds) : SemS K W (T__law_list_rules K (spD K R__law_cell)) (slots 4 ds) (PY (R_rules ds)) := by
  obtain ⟨ns, f, rfl, hn, f0, f1⟩ := h
  have hS : sizeLine = 16777216 := rfl
  have cl := cellF_lo ns
  apply ss_seq
  refine ss_asg (d := .int (cellF ns (f + 1))) (by walk_at "sem") ?_
  have q0 := cl (f + 1)
  generalize cellF ns (f + 1) = mo at q0 ⊢
  apply ss_seq
  refine ss_asg (d := .lst ([topR].map rlD)) (s_ofN s_top) ?_
  apply ss_seq
  refine ss_if (st_test (s_op (s_op (s_op (s_var rfl) s_int (os_div (by decide))) s_int (os_mod (by decide))) s_int os_eqI)) (fun _ => ?_) (fun _ => ss_next ?_)
  · apply ss_seq
    refine ss_asg (d := .lst ((lrA.take 3).map rlD)) (s_op (b := .lst (((lrA.drop 1).take 2).map rlD)) (s_var rfl) (s_lst (by walk_at "sems") (by show 2 ≤ sizeLine; decide)) (os_addL (by decide))) ?_
    apply ss_seq
    refine ss_asg (d := .lst ((lrA.take 5).map rlD)) (s_op (b := .lst (((lrA.drop 3).take 2).map rlD)) (s_var rfl) (s_lst (by walk_at "sems") (by show 2 ≤ sizeLine; decide)) (os_addL (by decide))) ?_
    exact ss_ret (d := .lst (lrA.map rlD)) (s_op (b := .lst ((lrA.drop 5).map rlD)) (s_var rfl) (s_lst (by walk_at "sems") (by show 2 ≤ sizeLine; decide)) (os_addL (by decide))) ⟨lrA, rfl, lrA_ok⟩
  · apply ss_seq
    refine ss_asgN (ds := lrB.map rlD) (sn_addL (a := [rlD topR]) (b := (lrB.drop 1).map rlD) (s_var rfl) (s_lst (by walk_at "sems") (by show 2 ≤ sizeLine; decide)) (by decide)) ?_
    have hg := lrB_ok
    generalize lrB = rs at hg ⊢
    have a1 := idx3 (l := rowsA) rfl (i := mo % 3) (by omega) (by omega)
    have g1 : GenT ⟨tx "a.1", rowsA.getD (mo % 3).toNat [], tx "some"⟩ := of3 (l := rowsA) (P := fun r => GenT ⟨tx "a.1", r, tx "some"⟩) rfl (fun r hr => genB_ok ((by decide +kernel : ∀ r ∈ rowsA, genB ⟨tx "a.1", r, tx "some"⟩ = true) r hr)) (by omega) (by omega)
    apply ss_seq
    refine ss_app (d := rlD ⟨tx "a.1", rowsA.getD (mo % 3).toNat [], tx "some"⟩) rfl (s_tup (sa_cons s_str (sa_cons (s_op (a := .lst (rowsA.map fun r => Dat.tup (r.map .txt))) (by walk_at "sem") (s_op (s_var rfl) s_int (os_mod (by decide))) (os_ixL a1)) (sa_cons s_str sa_nil))) (by show 3 ≤ sizeLine; decide)) (by rw [List.length_map]; have := hg.h; omega) ?_
    generalize (⟨tx "a.1", rowsA.getD (mo % 3).toNat [], tx "some"⟩ : Rule) = r1 at g1 ⊢
    have hg1 := hg.snoc g1 (.inl (by omega))
    rw [show rs.map rlD ++ [rlD r1] = (rs ++ [r1]).map rlD from by rw [List.map_append]; rfl]
    generalize rs ++ [r1] = rs1 at hg1 ⊢
    have a2 := idx3 (l := rowsB) rfl (i := mo / 3 % 3) (by omega) (by omega)
    have g2 : GenT ⟨tx "b", rowsB.getD (mo / 3 % 3).toNat [], tx ":two"⟩ := of3 (l := rowsB) (P := fun r => GenT ⟨tx "b", r, tx ":two"⟩) rfl (fun r hr => genB_ok ((by decide +kernel : ∀ r ∈ rowsB, genB ⟨tx "b", r, tx ":two"⟩ = true) r hr)) (by omega) (by omega)
    apply ss_seq
    refine ss_app (d := rlD ⟨tx "b", rowsB.getD (mo / 3 % 3).toNat [], tx ":two"⟩) rfl (s_tup (sa_cons s_str (sa_cons (s_op (a := .lst (rowsB.map fun r => Dat.tup (r.map .txt))) (by walk_at "sem") (s_op (s_op (s_var rfl) s_int (os_div (by decide))) s_int (os_mod (by decide))) (os_ixL a2)) (sa_cons s_str sa_nil))) (by show 3 ≤ sizeLine; decide)) (by rw [List.length_map]; have := hg1.h; omega) ?_
    generalize (⟨tx "b", rowsB.getD (mo / 3 % 3).toNat [], tx ":two"⟩ : Rule) = r2 at g2 ⊢
    have hg2 := hg1.snoc g2 (.inl (by omega))
    rw [show rs1.map rlD ++ [rlD r2] = (rs1 ++ [r2]).map rlD from by rw [List.map_append]; rfl]
    generalize rs1 ++ [r2] = rs2 at hg2 ⊢
    apply ss_seq
    refine ss_app (d := rlD ⟨tx "b.1", [], tx "empty"⟩) rfl (by walk_at "sem") (by rw [List.length_map]; have := hg2.h; omega) ?_
    have hg3 := hg2.snoc (genB_ok (r := ⟨tx "b.1", [], tx "empty"⟩) (by decide +kernel)) (.inl (by omega))
    rw [show rs2.map rlD ++ [rlD ⟨tx "b.1", [], tx "empty"⟩] = (rs2 ++ [(⟨tx "b.1", [], tx "empty"⟩ : Rule)]).map rlD from by rw [List.map_append]; rfl]
    generalize rs2 ++ [(⟨tx "b.1", [], tx "empty"⟩ : Rule)] = rs3 at hg3 ⊢
    have a4 := idx3 (l := rowsC) rfl (i := mo / 9 % 3) (by omega) (by omega)
    have g4 : GenT ⟨tx "b.1", tx "b.1" :: rowsC.getD (mo / 9 % 3).toNat [], tx "more"⟩ := of3 (l := rowsC) (P := fun r => GenT ⟨tx "b.1", tx "b.1" :: r, tx "more"⟩) rfl (fun r hr => genB_ok ((by decide +kernel : ∀ r ∈ rowsC, genB ⟨tx "b.1", tx "b.1" :: r, tx "more"⟩ = true) r hr)) (by omega) (by omega)
    have l4 : (rowsC.getD (mo / 9 % 3).toNat []).length ≤ 3 := of3 (l := rowsC) (P := fun r => r.length ≤ 3) rfl (by decide +kernel) (by omega) (by omega)
    apply ss_seq
    refine ss_app (d := rlD ⟨tx "b.1", tx "b.1" :: rowsC.getD (mo / 9 % 3).toNat [], tx "more"⟩) rfl (s_tup (sa_cons s_str (sa_cons (s_op (a := .tup [.txt (tx "b.1")]) (b := .tup ((rowsC.getD (mo / 9 % 3).toNat []).map .txt)) (by walk_at "sem") (s_op (a := .lst (rowsC.map fun r => Dat.tup (r.map .txt))) (by walk_at "sem") (s_op (s_op (s_var rfl) s_int (os_div (by decide))) s_int (os_mod (by decide))) (os_ixL a4)) (os_addU (by rw [List.length_map]; show 1 + _ ≤ _; omega))) (sa_cons s_str sa_nil))) (by show 3 ≤ sizeLine; decide)) (by rw [List.length_map]; have := hg3.h; omega) ?_
    generalize (⟨tx "b.1", tx "b.1" :: rowsC.getD (mo / 9 % 3).toNat [], tx "more"⟩ : Rule) = r4 at g4 ⊢
    have hg4 := hg3.snoc g4 (.inl (by omega))
    rw [show rs3.map rlD ++ [rlD r4] = (rs3 ++ [r4]).map rlD from by rw [List.map_append]; rfl]
    generalize rs3 ++ [r4] = rs4 at hg4 ⊢
    refine ss_seqJ (fun ρ => ∃ rs, ρ = [.dat (.scr ns), .dat (.int f), .dat (.int mo), .own (rs.map rlD)] ∧ Gs 7 8 rs) ?_ ?_
    · refine ss_if (st_test (s_op (s_op (s_op (s_var rfl) s_int (os_div (by decide))) s_int (os_mod (by decide))) s_int os_eqI)) (fun _ => ?_) fun _ => ss_next ⟨rs4, rfl, hg4.mono (by omega) (by omega)⟩
      refine ss_app (d := rlD ⟨tx "b", [tx "'(", tx "')"], tx ":three"⟩) rfl (by walk_at "sem") (by rw [List.length_map]; have := hg4.h; omega) ?_
      exact ⟨rs4 ++ [⟨tx "b", [tx "'(", tx "')"], tx ":three"⟩], by rw [List.map_append]; rfl, (hg4.snoc (genB_ok (by decide +kernel)) (.inl (by omega))).mono (by omega) (by omega)⟩
    · rintro ρ' ⟨rs5, rfl, hg5⟩
      refine ss_freeze 3 (ds := rs5.map rlD) rfl ?_
      exact ss_ret (s_var rfl) ⟨rs5, rfl, hg5.mono (by omega) (by omega)⟩
/-! ### any rows -/
set_option maxHeartbeats 2000000 in
theorem h__law_any_rules {K : PySem.W.Frag} {W : WX} (ds : List Dat) (h : D_rules ds) : SemS K W (T__law_any_rules K (spD K R__law_cell) (spD K R__law_kinds)) (slots 9 ds) (PY (R_rules ds)) := by
  obtain ⟨ns, f, rfl, hn, f0, f1⟩ := h
  have hS : sizeLine = 16777216 := rfl
  have cl := cellF_lo ns
  apply ss_seq
  refine ss_asg (d := .int (1 + cellF ns (f + 1) % 4)) (by walk_at "sem") ?_
  obtain ⟨m, em, m0, m1⟩ : ∃ m : Int, m = 1 + cellF ns (f + 1) % 4 ∧ 1 ≤ m ∧ m ≤ 4 := ⟨_, rfl, by have := cl (f + 1); omega, by omega⟩
  rw [← em]
  apply ss_seq
  refine ss_asgN s_top ?_
  apply ss_seq
  refine ss_for (ds := (List.range m.toNat).map fun k : Nat => .int ((k : Nat) : Int)) (si_range1Z (by walk_at "sems") (by omega) (by omega))
    (fun i ρ => ∃ rs s4 s5 s6 s7 s8, ρ = [.dat (.scr ns), .dat (.int f), .dat (.int m), .own (rs.map rlD), s4, s5, s6, s7, s8] ∧ Gs (1 + i) (1 + 3 * i) rs)
    ⟨[topR], _, _, _, _, _, rfl, Gs.start⟩ ?_ ?_
  · rintro p d ρ1 hd ⟨rs, s4, s5, s6, s7, s8, rfl, hg⟩
    obtain ⟨rfl, hp⟩ := getElem_range hd
    have hp4 : p < 4 := by omega
    refine ⟨_, sg_name, ?_⟩
    have y1 := abcd_in (i := (p : Int)) (by omega) (by omega)
    obtain ⟨c, ec, c0, c1⟩ : ∃ c : Int, c = 1 + cellF ns (f + 2 + (p : Int)) % 3 ∧ 1 ≤ c ∧ c ≤ 3 := ⟨_, rfl, by have := cl (f + 2 + (p : Int)); omega, by omega⟩
    refine ss_for (ds := (List.range c.toNat).map fun k : Nat => .int ((k : Nat) : Int)) (si_range1Z (sa_cons (s_is (s_op s_int (s_op (s_call (sa_cons (s_var rfl) (sa_cons (s_op (s_op (s_var rfl) s_int os_addI) (s_var rfl) os_addI) sa_nil)) (r__law_cell hn (by omega) (by omega))) s_int (os_mod (by decide))) os_addI) (by rw [ec])) sa_nil) (by omega) (by omega))
      (fun i ρ => ∃ rs s5 s6 s7 s8, ρ = [.dat (.scr ns), .dat (.int f), .dat (.int m), .own (rs.map rlD), .dat (.int (p : Int)), s5, s6, s7, s8] ∧ Gs (1 + p + i) (1 + 3 * p + i) rs)
      ⟨rs, s5, s6, s7, s8, rfl, hg⟩ ?_ ?_
    · rintro r d ρ1 hd ⟨rs, s5, s6, s7, s8, rfl, hg⟩
      obtain ⟨rfl, hr⟩ := getElem_range hd
      have hr3 : r < 3 := by omega
      refine ⟨_, sg_name, ?_⟩
      apply ss_seq
      refine ss_asgN (sn_lst sa_nil (by show 0 ≤ sizeLine; decide)) ?_
      apply ss_seq
      refine ss_for (ds := (List.range (cellF ns (f + 10 + 4 * (p : Int) + (r : Int)) % 4).toNat).map fun k : Nat => .int ((k : Nat) : Int)) (si_range1Z (sa_cons (s_op (s_call (sa_cons (s_var rfl) (sa_cons (s_op (s_op (s_op (s_var rfl) s_int os_addI) (s_op s_int (s_var rfl) (os_mul (by walk_at "mul"))) os_addI) (s_var rfl) os_addI) sa_nil)) (r__law_cell hn (by omega) (by omega))) s_int (os_mod (by decide))) sa_nil) (by omega) (by omega))
        (fun i ρ => ∃ (row : List Tx) (s7 s8 : Sl), ρ = [.dat (.scr ns), .dat (.int f), .dat (.int m), .own (rs.map rlD), .dat (.int (p : Int)), .dat (.int (r : Int)), .own (row.map .txt), s7, s8] ∧ (∀ x ∈ row, x ∈ symK) ∧ row.length ≤ i)
        ⟨[], s7, s8, rfl, (fun _ h => by cases h), Nat.le_refl _⟩ ?_ ?_
      · rintro j d ρ1 hd ⟨row, s7, s8, rfl, hrow, hl⟩
        obtain ⟨rfl, hj⟩ := getElem_range hd
        have hj4 : j < 4 := by omega
        refine ⟨_, sg_name, ?_⟩
        apply ss_seq
        refine ss_asg (d := .int (cellF ns (f + 30 + 12 * (p : Int) + 4 * (r : Int) + (j : Int)))) (s_call (sa_cons (s_var rfl) (sa_cons (s_op (s_op (s_op (s_op (s_var rfl) s_int os_addI) (s_op s_int (s_var rfl) (os_mul (by walk_at "mul"))) os_addI) (s_op s_int (s_var rfl) (os_mul (by walk_at "mul"))) os_addI) (s_var rfl) os_addI) sa_nil)) (r__law_cell hn (by omega) (by omega))) ?_
        have q0 := cl (f + 30 + 12 * (p : Int) + 4 * (r : Int) + (j : Int))
        generalize cellF ns (f + 30 + 12 * (p : Int) + 4 * (r : Int) + (j : Int)) = mo at q0 ⊢
        have z0 : 0 ≤ mo / 3 % m := Int.emod_nonneg _ (by omega)
        have z1 : mo / 3 % m < m := Int.emod_lt_of_pos _ (by omega)
        have y1 := abcd_in (i := mo / 3 % m) z0 (by omega)
        have y2 := kindAt_in (i := mo / 3 % 4) (by omega) (by omega)
        have x1 : ∀ {ρ : List Sl}, ρ[8]? = some (.dat (.int mo)) → ρ[2]? = some (.dat (.int m)) → Sem K (tOp (rIx K) (tC (.str (Str.ofString "abcd"))) (tOp uMod (tOp uDiv (tVar 8) (tC (.int 3))) (tVar 2))) ρ (.txt [[97, 98, 99, 100].getD (mo / 3 % m).toNat 0]) := fun h1 h2 => s_partAt (s_op (s_op (s_var h1) s_int (os_div (by decide))) (s_var h2) (os_mod (by omega))) z0 (by omega)
        have x2 : ∀ {ρ : List Sl}, ρ[8]? = some (.dat (.int mo)) → Sem K (tOp (rIx K) (tCall (spD K R__law_kinds) [] E0 tNil) (tOp uMod (tOp uDiv (tVar 8) (tC (.int 3))) (tC (.int 4)))) ρ (.txt (kinds8.getD (mo / 3 % 4).toNat [])) := fun h1 => s_kindAt (s_op (s_op (s_var h1) s_int (os_div (by decide))) s_int (os_mod (by decide))) (by omega) (by omega)
        generalize [[97, 98, 99, 100].getD (mo / 3 % m).toNat 0] = w1 at y1 x1
        generalize kinds8.getD (mo / 3 % 4).toNat [] = w2 at y2 x2
        have hx : atI ([w1, w2].map Dat.txt) (min 1 (mo % 3)) = some (.txt ([w1, w2].getD (min 1 (mo % 3)).toNat [])) := atI_mapD _ [] (by omega) (by show _ < (2 : Int); omega)
        have hin : [w1, w2].getD (min 1 (mo % 3)).toNat [] ∈ symK := by
          have : [w1, w2].getD (min 1 (mo % 3)).toNat [] ∈ [w1, w2] := getD_inL (by show _ < 2; omega)
          rcases List.mem_cons.mp this with z | z
          · rw [z]; exact symP y1
          · rw [List.mem_singleton.mp z]; exact y2
        refine ss_app (d := .txt ([w1, w2].getD (min 1 (mo % 3)).toNat [])) rfl (s_op (a := .lst ([w1, w2].map .txt)) (s_lst (sa_cons (x1 rfl rfl) (sa_cons (x2 rfl) sa_nil)) (by show 2 ≤ sizeLine; decide)) (s_cb (sa_cons s_int (sa_cons (s_op (s_var rfl) s_int (os_mod (by decide))) sa_nil)) cs_min) (os_ixL hx)) (by rw [List.length_map]; omega) ?_
        refine ⟨row ++ [[w1, w2].getD (min 1 (mo % 3)).toNat []], .dat (.int (j : Int)), .dat (.int mo), by rw [List.map_append]; rfl, fun x hx => ?_, by rw [List.length_append]; show _ + 1 ≤ _; omega⟩
        rcases List.mem_append.mp hx with z | z
        · exact hrow x z
        · rw [List.mem_singleton.mp z]; exact hin
      · rintro ρ1 ⟨row, s7, s8, rfl, hrow, hl⟩
        rw [List.length_map, List.length_range] at hl
        have hl6 : row.length ≤ 3 := by omega
        refine ss_freeze 6 (ds := row.map .txt) rfl ?_
        have hx : atI ((ones4.take 3).map Dat.txt) (r : Int) = some (.txt ((ones4.take 3).getD (r : Int).toNat [])) := atI_mapD _ [] (by omega) (by show _ < (3 : Int); omega)
        have w12 : (58 :: (ones4.take 3).getD (r : Int).toNat []).length ≤ 10 ∧ Okc (58 :: (ones4.take 3).getD (r : Int).toNat []) := by
          have : (r : Int).toNat = 0 ∨ (r : Int).toNat = 1 ∨ (r : Int).toNat = 2 := by omega
          rcases this with e | e | e <;> (rw [e]; refine ⟨by decide, ?_⟩; unfold Okc; decide)
        obtain ⟨w1, w2⟩ := w12
        refine ss_app (d := rlD ⟨[[97, 98, 99, 100].getD (p : Int).toNat 0], row, 58 :: (ones4.take 3).getD (r : Int).toNat []⟩) rfl (s_tup (sa_cons (s_partAt (s_var rfl) (by omega) (by omega)) (sa_cons (s_cb (sa_cons (s_var rfl) sa_nil) (cs_tuple rfl)) (sa_cons (s_op (a := .txt [58]) s_str (s_op (a := .lst ((ones4.take 3).map .txt)) (by walk_at "sem") (s_var rfl) (os_ixL hx)) (os_addT (by simp only [List.length_cons] at w1 ⊢; show 1 + _ ≤ _; omega))) sa_nil))) (by show 3 ≤ sizeLine; decide)) (by rw [List.length_map]; have := hg.h; omega) ?_
        refine ⟨rs ++ [⟨[[97, 98, 99, 100].getD (p : Int).toNat 0], row, 58 :: (ones4.take 3).getD (r : Int).toNat []⟩], _, _, _, _, by rw [List.map_append]; rfl, ?_⟩
        exact (hg.snoc ⟨y1, hrow, by show row.length ≤ 6; omega, w1, w2⟩ (by
          by_cases e : p = 0
          · exact .inr (by subst e; show [[97, 98, 99, 100].getD ((0 : Nat) : Int).toNat 0] = tAa; decide)
          · exact .inl (by omega))).mono (by omega) (by omega)
    · rintro ρ1 ⟨rs, s5, s6, s7, s8, rfl, hg⟩
      rw [List.length_map, List.length_range] at hg
      exact ⟨rs, _, _, _, _, _, rfl, hg.mono (by omega) (by omega)⟩
  · rintro ρ1 ⟨rs, s4, s5, s6, s7, s8, rfl, hg⟩
    rw [List.length_map, List.length_range] at hg
    refine ss_freeze 3 (ds := rs.map rlD) rfl ?_
    exact ss_ret (s_var rfl) ⟨rs, rfl, hg.mono (by omega) (by omega)⟩
theorem h__law_rules {K : PySem.W.Frag} {W : WX} (ds : List Dat) (h : D_rules ds) : SemS K W (T__law_rules K (spD K R__law_cell) (spN K D_rules (valR R_rules)) (spN K D_rules (valR R_rules)) (spN K D_rules (valR R_rules)) (spN K D_rules (valR R_rules))) (slots 3 ds) (PY (R_rules ds)) := by
  obtain ⟨ns, f, rfl, hn, f0, f1⟩ := h
  have hD : D_rules [.scr ns, .int f] := ⟨ns, f, rfl, hn, f0, f1⟩
  have ret : ∀ {ρ : List Sl} {P : Post}, ρ[0]? = some (.dat (.scr ns)) → ρ[1]? = some (.dat (.int f)) → P.rt = R_rules [.scr ns, .int f] → SemS K W (tRet (tCall (spN K D_rules (valR R_rules)) [] E0 (tCons (tVar 0) (tCons (tVar 1) tNil)))) ρ P := fun {ρ P} h0 h1 hp => by
    refine ss_retE (S := fun d _ => R_rules [.scr ns, .int f] d) (X := noX) (se_callN (sea_of (sa_cons (s_var h0) (sa_cons (s_var h1) sa_nil)) ⟨hD, fun o ho => ?_⟩)) (fun d ρ' h => .inl (by rw [hp]; exact h)) (fun _ _ _ h => h.elim)
    obtain ⟨d, e, q⟩ := ho
    exact ⟨d, e, q⟩
  apply ss_seq
  refine ss_asg (d := .int (cellF ns f % 7)) (by walk_at "sem") ?_
  apply ss_seq
  refine ss_if (st_test (s_op (s_var rfl) s_int os_lt)) (fun _ => ret rfl rfl rfl) (fun _ => ss_next ?_)
  apply ss_seq
  refine ss_if (st_test (s_op (s_var rfl) s_int os_lt)) (fun _ => ret rfl rfl rfl) (fun _ => ss_next ?_)
  apply ss_seq
  refine ss_if (st_test (s_op (s_var rfl) s_int os_eqI)) (fun _ => ret rfl rfl rfl) (fun _ => ss_next ?_)
  exact ret rfl rfl rfl

/-! ### loops that end -/
inductive Ends {σ : Type} (c : σ → Bool) (b : σ → σ) : Nat → σ → σ → Prop
  | stop {s : σ} : c s = false → Ends c b 0 s s
  | go {n : Nat} {s e : σ} : c s = true → Ends c b n (b s) e → Ends c b (n + 1) s e
theorem Ends.det {σ : Type} {c : σ → Bool} {b : σ → σ} {n : Nat} {s e : σ} (h : Ends c b n s e) : ∀ {m : Nat} {e' : σ}, Ends c b m s e' → e = e' := by
  induction h with
  | stop h0 =>
    intro m e' h'
    cases h' with
    | stop _ => rfl
    | go h1 _ => rw [h0] at h1; cases h1
  | go h0 _ ih =>
    intro m e' h'
    cases h' with
    | stop h1 => rw [h0] at h1; cases h1
    | go _ h2 => exact ih h2
theorem Ends.inv {σ : Type} {c : σ → Bool} {b : σ → σ} {I : σ → Prop} {n : Nat} {s e : σ} (h : Ends c b n s e) (hi : ∀ s, I s → c s = true → I (b s)) : I s → I e ∧ c e = false := by
  induction h with
  | stop h0 => exact fun h => ⟨h, h0⟩
  | go h0 _ ih => exact fun h => ih (hi _ h h0)
theorem ss_whileE {K : PySem.W.Frag} {W : WX} {ρ : List Sl} {P : Post} {tc : TT} {u : TS} {σ : Type} {c : σ → Bool} {b : σ → σ} {n : Nat} {s e : σ} (st : σ → List Sl → Prop) (I : σ → Prop) (h : Ends c b n s e) (hI : I s) (h0 : st s ρ)
    (hs : ∀ s ρ1, I s → st s ρ1 → SemT K tc ρ1 (c s) ∧ (c s = true → I (b s) ∧ SemS K W u ρ1 { P with nx := st (b s), ct := st (b s), bk := P.nx })) (hd : ∀ ρ1, I e → c e = false → st e ρ1 → P.nx ρ1) : SemS K W (tWhile tc u) ρ P := by
  refine ss_while (fun m ρ1 => ∃ s', Ends c b m s' e ∧ I s' ∧ st s' ρ1) n ⟨s, h, hI, h0⟩ ?_
  rintro m ρ1 ⟨s', E, i, t⟩
  obtain ⟨a1, a2⟩ := hs s' ρ1 i t
  refine ⟨c s', a1, fun hc => ?_, fun hc => ?_⟩
  · obtain ⟨i2, a3⟩ := a2 hc
    cases E with
    | stop h0 => rw [hc] at h0; cases h0
    | @go m' _ _ _ E' => exact ss_mono a3 (fun ρ' q => ⟨m', Nat.lt_succ_self _, _, E', i2, q⟩) (fun _ h => h) (fun _ h => h) (fun ρ' q => ⟨m', Nat.lt_succ_self _, _, E', i2, q⟩) (fun _ _ _ h => h)
  · cases E with
    | stop h0 => exact hd ρ1 i h0 t
    | go h1 _ => rw [hc] at h1; cases h1
/-- a loop ends by a measure of two numbers -/
theorem ends_by {σ : Type} {c : σ → Bool} {b : σ → σ} (I : σ → Prop) (m1 m2 : σ → Nat) (hb : ∀ s, I s → c s = true → I (b s)) (hm : ∀ s, I s → c s = true → m1 (b s) < m1 s ∨ (m1 (b s) = m1 s ∧ m2 (b s) < m2 s)) :
    ∀ s, I s → ∃ n e, Ends c b n s e := by
  have key : ∀ k1 k2 s, I s → m1 s = k1 → m2 s = k2 → ∃ n e, Ends c b n s e := by
    intro k1
    induction k1 using Nat.strongRecOn with
    | ind k1 ih1 =>
      intro k2
      induction k2 using Nat.strongRecOn with
      | ind k2 ih2 =>
        intro s hs e1 e2
        cases hc : c s with
        | false => exact ⟨0, s, .stop hc⟩
        | true =>
          have : ∃ n e, Ends c b n (b s) e := by
            rcases hm s hs hc with h | ⟨h, h'⟩
            · exact ih1 (m1 (b s)) (by omega) _ (b s) (hb s hs hc) rfl rfl
            · exact ih2 (m2 (b s)) (by omega) (b s) (hb s hs hc) (by omega) rfl
          obtain ⟨n, e, h⟩ := this
          exact ⟨n + 1, e, .go hc h⟩
  exact fun s hs => key _ _ s hs rfl rfl
/-! ### dicts as lists -/
section
variable {κ α β κ' : Type} [DecidableEq κ] [DecidableEq κ']
def keysA (c : List (κ × α)) : List κ := c.map Prod.fst
theorem getA_cons {j k : κ} {x : α} {r : List (κ × α)} : getA ((j, x) :: r) k = if j = k then some x else getA r k := rfl
theorem getA_some {k : κ} : ∀ {c : List (κ × α)} {v : α}, getA c k = some v → (k, v) ∈ c
  | [], _, h => by cases h
  | (j, x) :: r, v, h => by
    rw [getA_cons] at h
    by_cases e : j = k
    · rw [if_pos e] at h; cases h; rw [e]; exact .head _
    · rw [if_neg e] at h; exact .tail _ (getA_some h)
theorem getA_isSome {k : κ} : ∀ {c : List (κ × α)}, (getA c k).isSome = decide (k ∈ keysA c)
  | [] => rfl
  | (j, x) :: r => by
    rw [getA_cons]
    have ih := getA_isSome (k := k) (c := r)
    by_cases e : j = k
    · rw [if_pos e, e]
      show true = decide (k ∈ k :: keysA r)
      simp
    · rw [if_neg e, ih]
      show _ = decide (k ∈ j :: keysA r)
      have e' : ¬ k = j := fun z => e z.symm
      simp [e']
theorem getA_mem {k : κ} {v : α} : ∀ {c : List (κ × α)}, (keysA c).Nodup → (k, v) ∈ c → getA c k = some v
  | (j, x) :: r, nd, h => by
    have nd : (j :: keysA r).Nodup := nd
    rw [getA_cons]
    rcases List.mem_cons.mp h with z | z
    · cases z; rw [if_pos rfl]
    · have : j ≠ k := fun e => (List.nodup_cons.mp nd).1 (by rw [e]; exact List.mem_map.mpr ⟨_, z, rfl⟩)
      rw [if_neg this]
      exact getA_mem (List.nodup_cons.mp nd).2 z
theorem keys_map {k : κ} {v : α} : ∀ (c : List (κ × α)), keysA (c.map fun kv => if kv.1 = k then (kv.1, v) else kv) = keysA c
  | [] => rfl
  | (j, x) :: r => by
    show (if j = k then (j, v) else (j, x)).1 :: keysA (r.map _) = j :: keysA r
    rw [keys_map r]
    by_cases e : j = k
    · rw [if_pos e]
    · rw [if_neg e]
theorem keys_putA {c : List (κ × α)} {k : κ} {v : α} : keysA (putA c k v) = if k ∈ keysA c then keysA c else keysA c ++ [k] := by
  unfold putA
  rw [getA_isSome]
  by_cases h : k ∈ keysA c
  · rw [if_pos (by simpa using h), if_pos h, keys_map]
  · rw [if_neg (by simpa using h), if_neg h]
    unfold keysA
    rw [List.map_append]
    rfl
theorem nodup_putA {c : List (κ × α)} {k : κ} {v : α} (h : (keysA c).Nodup) : (keysA (putA c k v)).Nodup := by
  rw [keys_putA]
  split
  · exact h
  · rename_i hk
    rw [List.nodup_append]
    refine ⟨h, List.nodup_cons.mpr ⟨by simp, List.nodup_nil⟩, fun a ha b hb => ?_⟩
    rw [List.mem_singleton.mp hb]
    exact fun e => hk (e ▸ ha)
theorem getA_mapAt {k j : κ} {v : α} : ∀ {c : List (κ × α)}, getA (c.map fun kv => if kv.1 = k then (kv.1, v) else kv) j = if j = k then (getA c j).map (fun _ => v) else getA c j
  | [] => by rw [List.map_nil]; show none = if j = k then none else none; split <;> rfl
  | (i, x) :: r => by
    rw [List.map_cons]
    by_cases e : i = k
    · rw [if_pos e, getA_cons, getA_mapAt]
      by_cases e2 : i = j
      · have : j = k := e2 ▸ e
        rw [if_pos e2, if_pos this, getA_cons, if_pos e2]; rfl
      · rw [if_neg e2, getA_cons, if_neg e2]
    · rw [if_neg e, getA_cons, getA_mapAt, getA_cons]
      by_cases e2 : i = j
      · have : ¬ j = k := fun z => e (e2.trans z)
        rw [if_pos e2, if_neg this, if_pos e2]
      · rw [if_neg e2, if_neg e2]
theorem getA_append {k : κ} : ∀ {c d : List (κ × α)}, getA (c ++ d) k = (getA c k).or (getA d k)
  | [], d => by rw [List.nil_append]; rfl
  | (i, x) :: r, d => by
    rw [List.cons_append, getA_cons, getA_cons]
    by_cases e : i = k
    · rw [if_pos e, if_pos e]; rfl
    · rw [if_neg e, if_neg e]; exact getA_append
theorem getA_putA {c : List (κ × α)} {k j : κ} {v : α} : getA (putA c k v) j = if j = k then some v else getA c j := by
  unfold putA
  by_cases h : (getA c k).isSome = true
  · rw [if_pos h, getA_mapAt]
    by_cases e : j = k
    · rw [if_pos e, if_pos e, e]
      cases z : getA c k with
      | none => rw [z] at h; cases h
      | some w => rfl
    · rw [if_neg e, if_neg e]
  · rw [if_neg h, getA_append]
    by_cases e : j = k
    · rw [if_pos e, e]
      cases z : getA c k with
      | none => rw [getA_cons, if_pos rfl]; rfl
      | some w => rw [z] at h; exact absurd rfl h
    · rw [if_neg e, getA_cons, if_neg (fun z => e z.symm)]
      cases getA c j <;> rfl
theorem map_id_at {k : κ} {v : α} : ∀ {c : List (κ × α)}, (keysA c).Nodup → getA c k = some v → (c.map fun kv => if kv.1 = k then (kv.1, v) else kv) = c
  | [], _, _ => rfl
  | (j, x) :: r, nd, h => by
    have nd : (j :: keysA r).Nodup := nd
    rw [List.map_cons]
    rw [getA_cons] at h
    by_cases e : j = k
    · rw [if_pos e] at h
      cases h
      rw [if_pos e]
      have : (r.map fun kv => if kv.1 = k then (kv.1, v) else kv) = r := by
        rw [List.map_congr_left (g := id) fun kv hkv => ?_, List.map_id]
        have : kv.1 ≠ k := fun z => (List.nodup_cons.mp nd).1 (by rw [e, ← z]; exact List.mem_map.mpr ⟨kv, hkv, rfl⟩)
        rw [if_neg this]; rfl
      rw [this]
    · rw [if_neg e] at h
      rw [if_neg e, map_id_at (List.nodup_cons.mp nd).2 h]
theorem putA_same {c : List (κ × α)} {k : κ} {v : α} (nd : (keysA c).Nodup) (h : getA c k = some v) : putA c k v = c := by
  unfold putA
  rw [h]
  exact map_id_at nd h
/-- told by other keys -/
theorem getA_enc {enc : κ → κ'} (inj : ∀ a b, enc a = enc b → a = b) (f : α → β) (k : κ) : ∀ c : List (κ × α), getA (c.map fun p => (enc p.1, f p.2)) (enc k) = (getA c k).map f
  | [] => rfl
  | (j, x) :: r => by
    rw [List.map_cons, getA_cons, getA_cons]
    by_cases e : j = k
    · rw [if_pos (by rw [e]), if_pos e]; rfl
    · rw [if_neg (fun z => e (inj _ _ z)), if_neg e]; exact getA_enc inj f k r
theorem putA_enc {enc : κ → κ'} (inj : ∀ a b, enc a = enc b → a = b) (f : α → β) (k : κ) (v : α) (c : List (κ × α)) : putA (c.map fun p => (enc p.1, f p.2)) (enc k) (f v) = (putA c k v).map fun p => (enc p.1, f p.2) := by
  unfold putA
  rw [getA_enc inj]
  have e : ((getA c k).map f).isSome = (getA c k).isSome := by cases getA c k <;> rfl
  rw [e]
  split
  · rw [List.map_map, List.map_map]
    refine List.map_congr_left fun p _ => ?_
    show (if enc p.1 = enc k then (enc p.1, f v) else (enc p.1, f p.2)) = (enc (if p.1 = k then (p.1, v) else p).1, f (if p.1 = k then (p.1, v) else p).2)
    by_cases e : p.1 = k
    · rw [if_pos (by rw [e]), if_pos e]
    · rw [if_neg (fun z => e (inj _ _ z)), if_neg e]
  · rw [List.map_append]; rfl
end
def kT (p : List Nat) : Key := .inr (strL p)
theorem kT_inj (p q : List Nat) (h : kT p = kT q) : p = q := strL_inj (Sum.inr.inj h)
/-! ### well made rules -/
def lkind (t : Tx) : Bool := decide (cutL t none (some 1) = quo) || decide (t ∈ open3)
structure OkT (t : Tx) : Prop where
  l : t.length ≤ 100
  c : Okc t
structure WfR (r : Rule) : Prop where
  p : OkT r.part
  pk : isKind r.part = false
  s : ∀ x ∈ r.row, OkT x ∧ lkind x = isKind x
  l : r.row.length ≤ 50
  w : OkT r.way
structure Wf (rs : List Rule) : Prop where
  l : rs.length ≤ 200
  r : ∀ r ∈ rs, WfR r
  h : ∃ r0 tl s0 ss, rs = r0 :: tl ∧ r0.row = s0 :: ss
def okTb (t : Tx) : Bool := decide (t.length ≤ 100) && t.all (fun c => decide (c < 1114112))
theorem okTb_ok {t : Tx} (h : okTb t = true) : OkT t := by
  unfold okTb at h
  simp only [Bool.and_eq_true, decide_eq_true_eq, List.all_eq_true] at h
  exact ⟨h.1, h.2⟩
theorem sym_ok : ∀ x ∈ symK, okTb x = true ∧ lkind x = isKind x := by decide +kernel
theorem part_ok : ∀ x ∈ partsK, okTb x = true ∧ isKind x = false ∧ x ≠ [] := by decide +kernel
theorem Gs.wf {lo hi : Nat} {rs : List Rule} (h : Gs lo hi rs) (hh : hi ≤ 200) : Wf rs := by
  obtain ⟨tl, rfl, ht⟩ := h.t
  refine ⟨Nat.le_trans h.h hh, fun r hr => ?_, topR, tl, tAa, [], rfl, rfl⟩
  rcases List.mem_cons.mp hr with rfl | z
  · exact ⟨okTb_ok (by decide +kernel), by decide +kernel, fun x hx => (by
      have e : x = tAa := List.mem_singleton.mp hx
      subst e
      exact ⟨okTb_ok (by decide +kernel), by decide +kernel⟩), by decide, okTb_ok (by decide +kernel)⟩
  · have g := ht r z
    have p1 := part_ok _ g.p
    exact ⟨okTb_ok p1.1, p1.2.1, fun x hx => ⟨okTb_ok (sym_ok x (g.s x hx)).1, (sym_ok x (g.s x hx)).2⟩, by have := g.l; omega, by have := g.w.1; omega, g.w.2⟩
/-! ### counts -/
abbrev Cn := List (Tx × Nat)
def hasC (c : Cn) (s : Tx) : Bool := (getA c s).isSome
def valC (c : Cn) (s : Tx) : Nat := (getA c s).getD 0
def symC (c : Cn) (s : Tx) : Nat := if isKind s then 1 else valC c s
def sumR (c : Cn) (row : List Tx) : Nat := (row.map (symC c)).sum
def appl (c : Cn) (row : List Tx) : Bool := row.all fun s => isKind s || hasC c s
def stepC (c : Cn) (r : Rule) : Cn := if appl c r.row then putA c r.part (min (sumR c r.row) ((getA c r.part).getD (sumR c r.row))) else c
def roundC (rs : List Rule) (c : Cn) : Cn := rs.foldl stepC c
/-- parts that are not known, all that is known together -/
def unkC (rs : List Rule) (c : Cn) : Nat := (rs.filter fun r => !hasC c r.part).length
def totC (c : Cn) : Nat := (c.map Prod.snd).sum
def ltC (rs : List Rule) (c' c : Cn) : Prop := unkC rs c' < unkC rs c ∨ (unkC rs c' = unkC rs c ∧ totC c' < totC c)
theorem ltC.trans {rs : List Rule} {a b c : Cn} (h1 : ltC rs a b) (h2 : ltC rs b c) : ltC rs a c := by unfold ltC at *; omega
theorem ltC.irrefl {rs : List Rule} {a : Cn} : ¬ ltC rs a a := by unfold ltC; omega
theorem filter_le {α : Type} {p q : α → Bool} : ∀ {l : List α}, (∀ x ∈ l, p x = true → q x = true) → (l.filter p).length ≤ (l.filter q).length
  | [], _ => Nat.le_refl _
  | x :: r, h => by
    have ih := filter_le (l := r) fun y hy => h y (.tail _ hy)
    have hx := h x (.head _)
    rw [List.filter_cons, List.filter_cons]
    by_cases e : p x = true
    · rw [if_pos e, if_pos (hx e)]; simp only [List.length_cons]; omega
    · rw [if_neg e]
      split
      · simp only [List.length_cons]; omega
      · exact ih
theorem filter_lt {α : Type} {p q : α → Bool} {y : α} : ∀ {l : List α}, (∀ x ∈ l, p x = true → q x = true) → y ∈ l → p y = false → q y = true → (l.filter p).length < (l.filter q).length
  | x :: r, h, hy, h1, h2 => by
    have hle := filter_le (l := r) fun z hz => h z (.tail _ hz)
    rw [List.filter_cons, List.filter_cons]
    rcases List.mem_cons.mp hy with rfl | z
    · rw [if_neg (by rw [h1]; simp), if_pos h2]; simp only [List.length_cons]; omega
    · have ih := filter_lt (l := r) (fun z hz => h z (.tail _ hz)) z h1 h2
      have hx := h x (.head _)
      by_cases e : p x = true
      · rw [if_pos e, if_pos (hx e)]; simp only [List.length_cons]; omega
      · rw [if_neg e]
        split
        · simp only [List.length_cons]; omega
        · exact ih
theorem totC_map {k : Tx} {v w : Nat} : ∀ {c : Cn}, (keysA c).Nodup → getA c k = some w → totC (c.map fun kv => if kv.1 = k then (kv.1, v) else kv) + w = totC c + v
  | [], _, h => by cases h
  | (j, x) :: r, nd, h => by
    have nd : (j :: keysA r).Nodup := nd
    rw [List.map_cons]
    rw [getA_cons] at h
    by_cases e : j = k
    · rw [if_pos e] at h
      cases h
      rw [if_pos e]
      have : (r.map fun kv => if kv.1 = k then (kv.1, v) else kv) = r := by
        rw [List.map_congr_left (g := id) fun kv hkv => ?_, List.map_id]
        have : kv.1 ≠ k := fun z => (List.nodup_cons.mp nd).1 (by rw [e, ← z]; exact List.mem_map.mpr ⟨kv, hkv, rfl⟩)
        rw [if_neg this]; rfl
      rw [this]
      unfold totC
      simp only [List.map_cons, List.sum_cons]
      omega
    · rw [if_neg e] at h
      rw [if_neg e]
      have := totC_map (v := v) (List.nodup_cons.mp nd).2 h
      unfold totC at *
      simp only [List.map_cons, List.sum_cons]
      omega
theorem stepC_nd {c : Cn} {r : Rule} (h : (keysA c).Nodup) : (keysA (stepC c r)).Nodup := by
  unfold stepC
  split
  · exact nodup_putA h
  · exact h
theorem stepC_has {c : Cn} {r : Rule} {s : Tx} (h : hasC c s = true) : hasC (stepC c r) s = true := by
  unfold stepC
  split
  · unfold hasC; rw [getA_putA]; split
    · rfl
    · exact h
  · exact h
/-- a step changes nothing, or makes it less -/
theorem stepC_lt {rs : List Rule} {c : Cn} {r : Rule} (nd : (keysA c).Nodup) (hr : r ∈ rs) : stepC c r = c ∨ ltC rs (stepC c r) c := by
  have hmono : ∀ x ∈ rs, (!hasC (stepC c r) x.part) = true → (!hasC c x.part) = true := fun x _ hx => by
    cases z : hasC c x.part with
    | false => rfl
    | true => rw [stepC_has z] at hx; cases hx
  have hle := filter_le hmono
  cases ha : appl c r.row with
  | false => left; unfold stepC; rw [ha]; rfl
  | true =>
    cases hg : getA c r.part with
    | none =>
      right
      left
      refine filter_lt hmono hr ?_ (by unfold hasC; rw [hg]; rfl)
      have : hasC (stepC c r) r.part = true := by
        unfold stepC hasC
        rw [if_pos ha, getA_putA, if_pos rfl]; rfl
      rw [this]; rfl
    | some w =>
      have hs : stepC c r = putA c r.part (min (sumR c r.row) w) := by unfold stepC; rw [if_pos ha, hg]; rfl
      by_cases hw : w ≤ sumR c r.row
      · left
        rw [hs, Nat.min_eq_right hw]
        exact putA_same nd hg
      · right
        have hw : sumR c r.row < w := by omega
        rw [Nat.min_eq_left (by omega)] at hs
        have ht := totC_map (v := sumR c r.row) nd hg
        have hp : putA c r.part (sumR c r.row) = c.map fun kv => if kv.1 = r.part then (kv.1, sumR c r.row) else kv := by unfold putA; rw [hg]; rfl
        rw [← hp, ← hs] at ht
        unfold ltC
        have : unkC rs (stepC c r) ≤ unkC rs c := hle
        omega
theorem fold_nd {c : Cn} : ∀ {l : List Rule}, (keysA c).Nodup → (keysA (l.foldl stepC c)).Nodup
  | [], h => h
  | r :: l, h => fold_nd (l := l) (stepC_nd h)
theorem fold_lt {rs : List Rule} : ∀ {l : List Rule} {c : Cn}, (keysA c).Nodup → (∀ r ∈ l, r ∈ rs) → l.foldl stepC c = c ∨ ltC rs (l.foldl stepC c) c
  | [], c, _, _ => .inl rfl
  | r :: l, c, nd, h => by
    rw [List.foldl_cons]
    have h1 := stepC_lt nd (h r (.head _))
    have h2 := fold_lt (l := l) (stepC_nd (r := r) nd) fun x hx => h x (.tail _ hx)
    rcases h2 with e | e
    · rw [e]; exact h1
    · rcases h1 with z | z
      · rw [z] at e ⊢; exact .inr e
      · exact .inr (e.trans z)
/-- where a round changes nothing, no step does -/
theorem fold_eq {rs : List Rule} : ∀ {l : List Rule} {c : Cn}, (keysA c).Nodup → (∀ r ∈ l, r ∈ rs) → l.foldl stepC c = c → ∀ r ∈ l, stepC c r = c
  | [], c, _, _, _ => fun r hr => by cases hr
  | r :: l, c, nd, h, he => by
    rw [List.foldl_cons] at he
    have h1 := stepC_lt nd (h r (.head _))
    have h2 := fold_lt (l := l) (stepC_nd (r := r) nd) fun x hx => h x (.tail _ hx)
    have z : stepC c r = c := by
      rcases h1 with z | z
      · exact z
      · rcases h2 with e | e
        · rw [e] at he; exact he
        · rw [he] at e; exact absurd (e.trans z) ltC.irrefl
    rw [z] at he
    intro x hx
    rcases List.mem_cons.mp hx with rfl | hx
    · exact z
    · exact fold_eq nd (fun x hx => h x (.tail _ hx)) he x hx
abbrev Cst := Cn × Bool
def cBody (rs : List Rule) (s : Cst) : Cst := (roundC rs s.1, decide (roundC rs s.1 ≠ s.1))
theorem cnt_ex (rs : List Rule) : ∃ e : Cst, ∃ n, Ends (fun s : Cst => s.2) (cBody rs) n ([], true) e := by
  -- the first round always goes; a flag that is false ends
  have := ends_by (c := fun s : Cst => s.2) (b := cBody rs) (fun s => (keysA s.1).Nodup) (fun s => unkC rs s.1) (fun s => 2 * totC s.1 + (if s.2 then 1 else 0)) (fun s hs _ => fold_nd hs) (fun s hs hc => ?_) ([], true) List.nodup_nil
  · obtain ⟨n, e, h⟩ := this
    exact ⟨e, n, h⟩
  · have hc : s.2 = true := hc
    have h := fold_lt (rs := rs) (l := rs) (c := s.1) hs fun r hr => hr
    rcases h with e | e
    · right
      have e : roundC rs s.1 = s.1 := e
      refine ⟨by show unkC rs (roundC rs s.1) = _; rw [e], ?_⟩
      show 2 * totC (roundC rs s.1) + (if decide (roundC rs s.1 ≠ s.1) then 1 else 0) < 2 * totC s.1 + (if s.2 then 1 else 0)
      rw [e, hc]
      simp
    · have e : ltC rs (roundC rs s.1) s.1 := e
      rcases e with e | ⟨e1, e2⟩
      · exact .inl e
      · refine .inr ⟨e1, ?_⟩
        show 2 * totC (roundC rs s.1) + (if decide (roundC rs s.1 ≠ s.1) then 1 else 0) < 2 * totC s.1 + (if s.2 then 1 else 0)
        split <;> omega
noncomputable def cntE (rs : List Rule) : Cst := Classical.choose (cnt_ex rs)
noncomputable def cnt (rs : List Rule) : Cn := (cntE rs).1
theorem cnt_ends (rs : List Rule) : ∃ n, Ends (fun s : Cst => s.2) (cBody rs) n ([], true) (cnt rs, false) := by
  obtain ⟨n, h⟩ := Classical.choose_spec (cnt_ex rs)
  have h2 := (h.inv (I := fun _ => True) (fun _ _ _ => trivial) trivial).2
  refine ⟨n, ?_⟩
  have e : (cnt rs, false) = cntE rs := by
    unfold cnt
    have : (cntE rs).2 = false := h2
    rw [← this]
  rw [e]
  exact h
/-! what is so of counts -/
structure CInv (rs : List Rule) (s : Cst) : Prop where
  nd : (keysA s.1).Nodup
  ex : ∀ p v, getA s.1 p = some v → ∃ r ∈ rs, r.part = p ∧ appl s.1 r.row = true ∧ sumR s.1 r.row ≤ v
  st : s.2 = false → roundC rs s.1 = s.1
theorem appl_step {c : Cn} {r : Rule} {row : List Tx} (h : appl c row = true) : appl (stepC c r) row = true := by
  unfold appl at *
  rw [List.all_eq_true] at *
  intro s hs
  have := h s hs
  rw [Bool.or_eq_true] at this ⊢
  rcases this with z | z
  · exact .inl z
  · exact .inr (stepC_has z)
theorem valC_step {c : Cn} {r : Rule} {s : Tx} (h : hasC c s = true) : valC (stepC c r) s ≤ valC c s := by
  unfold stepC
  split
  · unfold valC
    rw [getA_putA]
    split
    · rename_i e
      subst e
      cases z : getA c r.part with
      | none => unfold hasC at h; rw [z] at h; cases h
      | some w => show min _ w ≤ w; omega
    · exact Nat.le_refl _
  · exact Nat.le_refl _
theorem sum_le {α : Type} {f g : α → Nat} : ∀ {l : List α}, (∀ x ∈ l, f x ≤ g x) → (l.map f).sum ≤ (l.map g).sum
  | [], _ => Nat.le_refl _
  | x :: r, h => by
    have := sum_le (l := r) fun y hy => h y (.tail _ hy)
    have := h x (.head _)
    simp only [List.map_cons, List.sum_cons]
    omega
theorem sumR_step {c : Cn} {r : Rule} {row : List Tx} (h : appl c row = true) : sumR (stepC c r) row ≤ sumR c row := by
  refine sum_le fun s hs => ?_
  unfold symC
  split
  · exact Nat.le_refl _
  · rename_i hk
    unfold appl at h
    rw [List.all_eq_true] at h
    have := h s hs
    rw [Bool.or_eq_true] at this
    rcases this with z | z
    · exact absurd z hk
    · exact valC_step z
theorem ex_step {rs : List Rule} {c : Cn} {r : Rule} (hr : r ∈ rs) (h : ∀ p v, getA c p = some v → ∃ r ∈ rs, r.part = p ∧ appl c r.row = true ∧ sumR c r.row ≤ v) :
    ∀ p v, getA (stepC c r) p = some v → ∃ x ∈ rs, x.part = p ∧ appl (stepC c r) x.row = true ∧ sumR (stepC c r) x.row ≤ v := by
  intro p v hp
  have old : ∀ w, getA c p = some w → w ≤ v → ∃ x ∈ rs, x.part = p ∧ appl (stepC c r) x.row = true ∧ sumR (stepC c r) x.row ≤ v := fun w hw hle => by
    obtain ⟨x, hx, h1, h2, h3⟩ := h p w hw
    exact ⟨x, hx, h1, appl_step h2, Nat.le_trans (Nat.le_trans (sumR_step h2) h3) hle⟩
  by_cases ha : appl c r.row = true
  · have hs : stepC c r = putA c r.part (min (sumR c r.row) ((getA c r.part).getD (sumR c r.row))) := by unfold stepC; rw [if_pos ha]
    have hp2 := hp
    rw [hs, getA_putA] at hp2
    by_cases e : p = r.part
    · rw [if_pos e] at hp2
      have hv := Option.some.inj hp2
      by_cases hle : sumR c r.row ≤ v
      · exact ⟨r, hr, e.symm, appl_step ha, Nat.le_trans (sumR_step ha) hle⟩
      · cases z : getA c r.part with
        | none => rw [z] at hv; simp at hv; omega
        | some w =>
          rw [z] at hv
          have hv : min (sumR c r.row) w = v := hv
          exact old w (by rw [e]; exact z) (by omega)
    · rw [if_neg e] at hp2
      exact old v hp2 (Nat.le_refl _)
  · have hs : stepC c r = c := by unfold stepC; rw [if_neg ha]
    rw [hs] at hp
    exact old v hp (Nat.le_refl _)
theorem ex_fold {rs : List Rule} : ∀ {l : List Rule} {c : Cn}, (∀ r ∈ l, r ∈ rs) → (∀ p v, getA c p = some v → ∃ r ∈ rs, r.part = p ∧ appl c r.row = true ∧ sumR c r.row ≤ v) →
    ∀ p v, getA (l.foldl stepC c) p = some v → ∃ x ∈ rs, x.part = p ∧ appl (l.foldl stepC c) x.row = true ∧ sumR (l.foldl stepC c) x.row ≤ v
  | [], _, _, h => h
  | r :: l, c, hl, h => ex_fold (l := l) (fun x hx => hl x (.tail _ hx)) (ex_step (hl r (.head _)) h)
theorem cnt_inv (rs : List Rule) : CInv rs (cnt rs, false) := by
  obtain ⟨n, h⟩ := cnt_ends rs
  refine (h.inv (I := fun s => CInv rs s) (fun s hs _ => ⟨fold_nd hs.nd, ex_fold (fun r hr => hr) hs.ex, fun hf => ?_⟩) ⟨List.nodup_nil, fun p v h => (by cases h), fun h => by cases h⟩).1
  have hf : decide (roundC rs s.1 ≠ s.1) = false := hf
  have e : roundC rs s.1 = s.1 := by
    have := of_decide_eq_false hf
    exact Classical.not_not.mp this
  show roundC rs (roundC rs s.1) = roundC rs s.1
  rw [e, e]
/-- the counts are right: of each part that has one, no rule of it has fewer, and one has as many -/
theorem cnt_le {rs : List Rule} {r : Rule} (hr : r ∈ rs) (ha : appl (cnt rs) r.row = true) : hasC (cnt rs) r.part = true ∧ valC (cnt rs) r.part ≤ sumR (cnt rs) r.row := by
  have I := cnt_inv rs
  have hs := fold_eq (rs := rs) (l := rs) I.nd (fun r hr => hr) (I.st rfl) r hr
  have hs2 : putA (cnt rs) r.part (min (sumR (cnt rs) r.row) ((getA (cnt rs) r.part).getD (sumR (cnt rs) r.row))) = cnt rs := by
    have : stepC (cnt rs) r = putA (cnt rs) r.part (min (sumR (cnt rs) r.row) ((getA (cnt rs) r.part).getD (sumR (cnt rs) r.row))) := by unfold stepC; rw [if_pos ha]
    rw [← this]; exact hs
  have hg : getA (cnt rs) r.part = some (min (sumR (cnt rs) r.row) ((getA (cnt rs) r.part).getD (sumR (cnt rs) r.row))) := by
    have := getA_putA (c := cnt rs) (k := r.part) (j := r.part) (v := min (sumR (cnt rs) r.row) ((getA (cnt rs) r.part).getD (sumR (cnt rs) r.row)))
    rw [hs2, if_pos rfl] at this
    exact this
  refine ⟨by unfold hasC; rw [hg]; rfl, ?_⟩
  have : valC (cnt rs) r.part = min (sumR (cnt rs) r.row) ((getA (cnt rs) r.part).getD (sumR (cnt rs) r.row)) := by
    exact congrArg (fun o : Option Nat => o.getD 0) hg
  omega
theorem cnt_eq {rs : List Rule} {p : Tx} (h : hasC (cnt rs) p = true) : ∃ r ∈ rs, r.part = p ∧ appl (cnt rs) r.row = true ∧ sumR (cnt rs) r.row = valC (cnt rs) p := by
  have I := cnt_inv rs
  cases z : getA (cnt rs) p with
  | none => unfold hasC at h; rw [z] at h; cases h
  | some v =>
    obtain ⟨r, hr, h1, h2, h3⟩ := I.ex p v z
    refine ⟨r, hr, h1, h2, ?_⟩
    have h4 := (cnt_le hr h2).2
    rw [h1] at h4
    have : valC (cnt rs) p = v := by unfold valC; rw [z]; rfl
    have h3 : sumR (cnt rs) r.row ≤ v := h3
    omega

/-! ### the law's kinds, parts, counts -/
def R__law_is_kind (ds : List Dat) (d : Dat) : Prop := ∃ t, ds = [.txt t] ∧ t.length ≤ 1000 ∧ d = .bl (lkind t)
theorem h__law_is_kind {K : PySem.W.Frag} {W : WX} (ds : List Dat) (d : Dat) (h : R__law_is_kind ds d) : SemS K W (T__law_is_kind K) (slots 1 ds) (PF d) := by
  obtain ⟨t, rfl, hl, rfl⟩ := h
  have hS : sizeLine = 16777216 := rfl
  refine ss_ret (s_orB (k := decide (cutL t none (some 1) = quo)) (l := decide (t ∈ open3)) (s_op (a := .txt (cutL t none (some 1))) (b := .txt quo) (s_sl (s_var rfl) so_none (so_some s_int) (ss_txt (by omega))) s_str os_eqT) fun _ => ?_) rfl
  exact s_op (s_var rfl) (s_tup (sa_cons s_str (sa_cons s_str (sa_cons s_str sa_nil))) (by show 3 ≤ sizeLine; decide)) os_in3
def pnames (rs : List Rule) : List Tx := rs.foldl (fun acc r => if r.part ∈ acc then acc else acc ++ [r.part]) []
theorem pnames_snoc {l : List Rule} {r : Rule} : pnames (l ++ [r]) = if r.part ∈ pnames l then pnames l else pnames l ++ [r.part] := by unfold pnames; rw [List.foldl_append]; rfl
theorem pnames_len : ∀ (l : List Rule) (acc : List Tx), (l.foldl (fun acc r => if r.part ∈ acc then acc else acc ++ [r.part]) acc).length ≤ acc.length + l.length
  | [], acc => Nat.le_refl _
  | r :: l, acc => by
    rw [List.foldl_cons]
    refine Nat.le_trans (pnames_len l _) ?_
    split
    · simp only [List.length_cons]; omega
    · rw [List.length_append]; simp only [List.length_cons, List.length_nil]; omega
theorem pnames_le (l : List Rule) : (pnames l).length ≤ l.length := by have := pnames_len l []; rw [List.length_nil, Nat.zero_add] at this; exact this
theorem pn_mono : ∀ (l : List Rule) (acc : List Tx) (x : Tx), x ∈ acc → x ∈ l.foldl (fun acc r => if r.part ∈ acc then acc else acc ++ [r.part]) acc
  | [], _, _, h => h
  | r :: l, acc, x, h => by
    rw [List.foldl_cons]
    refine pn_mono l _ x ?_
    split
    · exact h
    · exact List.mem_append_left _ h
theorem pn_mem : ∀ (l : List Rule) (acc : List Tx) (x : Tx), x ∈ l.foldl (fun acc r => if r.part ∈ acc then acc else acc ++ [r.part]) acc ↔ x ∈ acc ∨ ∃ r ∈ l, r.part = x
  | [], acc, x => by simp
  | r :: l, acc, x => by
    rw [List.foldl_cons, pn_mem l]
    constructor
    · rintro (h | ⟨q, h1, h2⟩)
      · split at h
        · exact .inl h
        · rcases List.mem_append.mp h with z | z
          · exact .inl z
          · exact .inr ⟨r, .head _, (List.mem_singleton.mp z).symm⟩
      · exact .inr ⟨q, .tail _ h1, h2⟩
    · rintro (h | ⟨q, h1, h2⟩)
      · left
        split
        · exact h
        · exact List.mem_append_left _ h
      · rcases List.mem_cons.mp h1 with rfl | z
        · left
          split
          · rename_i hm; rw [← h2]; exact hm
          · rw [← h2]; exact List.mem_append_right _ (.head _)
        · exact .inr ⟨q, z, h2⟩
theorem mem_pnames {rs : List Rule} {x : Tx} : x ∈ pnames rs ↔ ∃ r ∈ rs, r.part = x := by
  unfold pnames
  rw [pn_mem]
  simp
theorem pn_nodup : ∀ (l : List Rule) (acc : List Tx), acc.Nodup → (l.foldl (fun acc r => if r.part ∈ acc then acc else acc ++ [r.part]) acc).Nodup
  | [], _, h => h
  | r :: l, acc, h => by
    rw [List.foldl_cons]
    refine pn_nodup l _ ?_
    split
    · exact h
    · rename_i hk
      rw [List.nodup_append]
      refine ⟨h, List.nodup_cons.mpr ⟨by simp, List.nodup_nil⟩, fun a ha b hb => ?_⟩
      rw [List.mem_singleton.mp hb]
      exact fun e => hk (e ▸ ha)
theorem pnames_nd (rs : List Rule) : (pnames rs).Nodup := pn_nodup rs [] List.nodup_nil
theorem wf_pn {rs : List Rule} (h : Wf rs) : (∀ x ∈ pnames rs, OkT x) ∧ (pnames rs).length ≤ 200 := by
  refine ⟨fun x hx => ?_, Nat.le_trans (pnames_le rs) h.l⟩
  obtain ⟨r, hr, rfl⟩ := mem_pnames.mp hx
  exact (h.r r hr).p
def R__law_part_names (ds : List Dat) (d : Dat) : Prop := ∃ rs, ds = [.lst (rs.map rlD)] ∧ Wf rs ∧ d = .lst ((pnames rs).map .txt)
theorem s_rpart {K : PySem.W.Frag} {ρ : List Sl} {j : Nat} {r : Rule} (h : ρ[j]? = some (.dat (rlD r))) : Sem K (tOp (rIx K) (tVar j) (tC (.int 0))) ρ (.txt r.part) := s_op (s_var h) s_int (os_ixU rfl)
theorem s_rrow {K : PySem.W.Frag} {ρ : List Sl} {j : Nat} {r : Rule} (h : ρ[j]? = some (.dat (rlD r))) : Sem K (tOp (rIx K) (tVar j) (tC (.int 1))) ρ (.tup (r.row.map .txt)) := s_op (s_var h) s_int (os_ixU rfl)
/-! counts as a dict -/
def cD (c : Cn) : List (Key × Dat) := c.map fun p => (kT p.1, .int (p.2 : Int))
def cI (c : Cn) : List (Key × Int) := c.map fun p => (kT p.1, (p.2 : Int))
theorem cD_I (c : Cn) : cD c = (cI c).map fun p => (p.1, .int p.2) := by unfold cD cI; rw [List.map_map]; rfl
theorem getA_cD (c : Cn) (t : Tx) : getA (cD c) (kT t) = (getA c t).map fun n => .int (n : Int) := getA_enc kT_inj (fun n : Nat => Dat.int (n : Int)) t c
theorem putA_cD (c : Cn) (t : Tx) (n : Nat) : putA (cD c) (kT t) (.int (n : Int)) = cD (putA c t n) := putA_enc kT_inj (fun n : Nat => Dat.int (n : Int)) t n c
theorem has_cD (c : Cn) (t : Tx) : (getA (cD c) (kT t)).isSome = hasC c t := by rw [getA_cD]; unfold hasC; cases getA c t <;> rfl
theorem val_cD {c : Cn} {t : Tx} (h : hasC c t = true) : getA (cD c) (kT t) = some (.int (valC c t : Int)) := by
  rw [getA_cD]
  unfold hasC at h
  unfold valC
  cases z : getA c t with
  | none => rw [z] at h; cases h
  | some v => rfl
structure Ck (rs : List Rule) (c : Cn) : Prop where
  nd : (keysA c).Nodup
  ks : ∀ k ∈ keysA c, ∃ r ∈ rs, r.part = k
theorem nodup_sub_len {α : Type} [DecidableEq α] : ∀ {l m : List α}, l.Nodup → (∀ x ∈ l, x ∈ m) → l.length ≤ m.length
  | [], _, _, _ => Nat.zero_le _
  | x :: r, m, nd, h => by
    have hx := h x (.head _)
    have := nodup_sub_len (l := r) (m := m.erase x) (List.nodup_cons.mp nd).2 fun y hy => by
      have hne : y ≠ x := fun e => (List.nodup_cons.mp nd).1 (e ▸ hy)
      exact (List.mem_erase_of_ne hne).mpr (h y (.tail _ hy))
    have h2 := List.length_erase_of_mem hx
    have h3 := List.length_pos_of_mem hx
    simp only [List.length_cons]
    omega
theorem Ck.len {rs : List Rule} {c : Cn} (h : Ck rs c) : c.length ≤ rs.length := by
  have := nodup_sub_len (l := keysA c) (m := rs.map Rule.part) h.nd fun k hk => by
    obtain ⟨r, hr, e⟩ := h.ks k hk
    exact List.mem_map.mpr ⟨r, hr, e⟩
  unfold keysA at this
  simpa using this
theorem Ck.put {rs : List Rule} {c : Cn} {r : Rule} {v : Nat} (h : Ck rs c) (hr : r ∈ rs) : Ck rs (putA c r.part v) := by
  refine ⟨nodup_putA h.nd, fun k hk => ?_⟩
  rw [keys_putA] at hk
  split at hk
  · exact h.ks k hk
  · rcases List.mem_append.mp hk with z | z
    · exact h.ks k z
    · exact ⟨r, hr, (List.mem_singleton.mp z).symm⟩
theorem Ck.step {rs : List Rule} {c : Cn} {r : Rule} (h : Ck rs c) (hr : r ∈ rs) : Ck rs (stepC c r) := by
  unfold stepC
  split
  · exact h.put hr
  · exact h
theorem Ck.fold {rs : List Rule} : ∀ {l : List Rule} {c : Cn}, Ck rs c → (∀ r ∈ l, r ∈ rs) → Ck rs (l.foldl stepC c)
  | [], _, h, _ => h
  | r :: l, _, h, hl => Ck.fold (l := l) (h.step (hl r (.head _))) fun x hx => hl x (.tail _ hx)
theorem keys_step {c : Cn} {r : Rule} : ∃ t, keysA (stepC c r) = keysA c ++ t := by
  unfold stepC
  split
  · rw [keys_putA]
    split
    · exact ⟨[], by simp⟩
    · exact ⟨_, rfl⟩
  · exact ⟨[], by simp⟩
theorem keys_fold : ∀ {l : List Rule} {c : Cn}, ∃ t, keysA (l.foldl stepC c) = keysA c ++ t
  | [], c => ⟨[], by simp⟩
  | r :: l, c => by
    obtain ⟨t1, e1⟩ := keys_step (c := c) (r := r)
    obtain ⟨t2, e2⟩ := keys_fold (l := l) (c := stepC c r)
    exact ⟨t1 ++ t2, by rw [List.foldl_cons, e2, e1, List.append_assoc]⟩
theorem eqDI_c {c c' : Cn} (nd : (keysA c).Nodup) (pre : ∃ t, keysA c = keysA c' ++ t) : eqDI (cI c) (cI c') = decide (c = c') := by
  obtain ⟨t, ht⟩ := pre
  have nd' : (keysA c').Nodup := by rw [ht] at nd; exact (List.nodup_append.mp nd).1
  have gI : ∀ (c : Cn) (k : Tx), getA (cI c) (kT k) = (getA c k).map fun n : Nat => (n : Int) := fun c k => getA_enc kT_inj (fun n : Nat => (n : Int)) k c
  unfold eqDI
  by_cases e : c = c'
  · subst e
    rw [decide_eq_true rfl]
    simp only [beq_self_eq_true, Bool.true_and, List.all_eq_true]
    intro p hp
    obtain ⟨q, hq, rfl⟩ := List.mem_map.mp hp
    show (getA (cI c) (kT q.1) == some (q.2 : Int)) = true
    rw [gI, getA_mem nd hq]
    simp
  · rw [decide_eq_false e]
    apply Bool.eq_false_iff.mpr
    intro h
    rw [Bool.and_eq_true] at h
    obtain ⟨h1, h2⟩ := h
    apply e
    have hl : c.length = c'.length := by
      unfold cI at h1
      simpa using h1
    have ht0 : t = [] := by
      have := congrArg List.length ht
      unfold keysA at this
      rw [List.length_append, List.length_map, List.length_map] at this
      exact List.eq_nil_of_length_eq_zero (by omega)
    subst ht0
    rw [List.append_nil] at ht
    rw [List.all_eq_true] at h2
    apply List.ext_getElem? 
    intro i
    have hk : (keysA c)[i]? = (keysA c')[i]? := by rw [ht]
    unfold keysA at hk
    rw [List.getElem?_map, List.getElem?_map] at hk
    cases z : c[i]? with
    | none =>
      rw [z] at hk
      cases z' : c'[i]? with
      | none => rfl
      | some q => rw [z'] at hk; cases hk
    | some p =>
      rw [z] at hk
      cases z' : c'[i]? with
      | none => rw [z'] at hk; cases hk
      | some q =>
        rw [z'] at hk
        have e1 : p.1 = q.1 := Option.some.inj hk
        have hp : p ∈ c := List.mem_of_getElem? z
        have hq : q ∈ c' := List.mem_of_getElem? z'
        have := h2 (kT p.1, (p.2 : Int)) (List.mem_map.mpr ⟨p, hp, rfl⟩)
        have := eq_of_beq this
        have this : getA (cI c') (kT p.1) = some (p.2 : Int) := this
        rw [gI, e1, getA_mem nd' hq] at this
        have e2 : (q.2 : Int) = (p.2 : Int) := Option.some.inj this
        have e3 : q.2 = p.2 := by omega
        rw [show p = q from Prod.ext e1 e3.symm]
/-! sums -/
theorem sum_cast (f : Tx → Nat) : ∀ row : List Tx, (row.map fun x => ((f x : Nat) : Int)).sum = (((row.map f).sum : Nat) : Int)
  | [] => rfl
  | x :: r => by
    simp only [List.map_cons, List.sum_cons]
    rw [sum_cast f r]
    omega
theorem s_sumG {K : PySem.W.Frag} {ρ : List Sl} {tr td : TE} {j : Nat} {c : Cn} {row : List Tx} {spk : Sp} {E : XK} (hj : j < ρ.length) (hr : Sem K tr ρ (.tup (row.map .txt))) (hd : ∀ x, Sem K td (ρ.set j (.dat (.txt x))) (.dct (cD c)))
    (hk : ∀ x ∈ row, Sem K (tCall spk [] E (tCons (tVar j) tNil)) (ρ.set j (.dat (.txt x))) (.bl (isKind x))) (hh : ∀ x ∈ row, isKind x = false → hasC c x = true) (hl : row.length ≤ 1000) :
    Sem K (tCB (rSum K) (tCons (tLc (iU K tr) (gName j) tYes (tIf (tTru K (tCall spk [] E (tCons (tVar j) tNil))) (tC (.int 1)) (tDGet td (tVar j))) [j]) tNil)) ρ (.int ((sumR c row : Nat) : Int)) := by
  have hS : sizeLine = 16777216 := rfl
  have h1 : Sem K (tLc (iU K tr) (gName j) tYes (tIf (tTru K (tCall spk [] E (tCons (tVar j) tNil))) (tC (.int 1)) (tDGet td (tVar j))) [j]) ρ (.lst ((row.map fun x => ((symC c x : Nat) : Int)).map .int)) := by
    rw [List.map_map]
    refine s_ofN (sn_lcM (xs := row) (enc := .txt) (g := fun x => .int ((symC c x : Nat) : Int)) (si_u hr rfl) (by omega) fun x hx => ?_)
    refine s_is (s_if (k := isKind x) (a := .int 1) (b := .int (valC c x : Int)) (st_bl (hk x hx)) (fun _ => s_int) fun hf => ?_) ?_
    · exact s_dget (hd x) (s_var (List.getElem?_set_self hj)) (k := kT x) rfl (val_cD (hh x hx hf))
    · unfold symC
      cases isKind x <;> rfl
  have h2 := cs_sum (K := K) (ns := row.map fun x => ((symC c x : Nat) : Int))
  rw [sum_cast (symC c)] at h2
  exact s_cb (sa_cons h1 sa_nil) h2
/-- is_kind, the law's is_kind -/
theorem s_lkind {K : PySem.W.Frag} {ρ : List Sl} {E : XK} {j : Nat} {x : Tx} (h : ρ[j]? = some (.dat (.txt x))) (hl : OkT x) (e : lkind x = isKind x) : Sem K (tCall (spD K R__law_is_kind) [] E (tCons (tVar j) tNil)) ρ (.bl (isKind x)) :=
  e ▸ s_call (sa_cons (s_var h) sa_nil) ⟨x, rfl, by have := hl.l; omega, rfl⟩
theorem s_pkind {K : PySem.W.Frag} {ρ : List Sl} {E : XK} {j : Nat} {x : Tx} (h : ρ[j]? = some (.dat (.txt x))) (hl : OkT x) : Sem K (tCall (spD K R_is_kind) [] E (tCons (tVar j) tNil)) ρ (.bl (isKind x)) :=
  s_call (sa_cons (s_var h) sa_nil) (r_is_kindT (by have := hl.l; unfold sizeLine; omega))
theorem appl_iff {c : Cn} {row : List Tx} : (row.filter fun s => !isKind s && !hasC c s).isEmpty = appl c row := by
  unfold appl
  induction row with
  | nil => rfl
  | cons x r ih =>
    rw [List.filter_cons, List.all_cons, ← ih]
    cases isKind x <;> cases hasC c x <;> simp
theorem appl_has {c : Cn} {row : List Tx} (h : appl c row = true) : ∀ x ∈ row, isKind x = false → hasC c x = true := fun x hx hk => by
  unfold appl at h
  rw [List.all_eq_true] at h
  have := h x hx
  rw [hk] at this
  simpa using this
theorem stepC_take {rs : List Rule} {i : Nat} {r : Rule} {c : Cn} (h : rs[i]? = some r) : (rs.take (i + 1)).foldl stepC c = stepC ((rs.take i).foldl stepC c) r := by
  rw [take_next h, List.foldl_append]; rfl
def R__law_counts (ds : List Dat) (o : Out) : Prop := ∃ rs, ds = [.lst (rs.map rlD)] ∧ Wf rs ∧ o = .mt (.pd (cD (cnt rs)))
theorem sg_rule {K : PySem.W.Frag} {ρ : List Sl} {a b c : Nat} {r : Rule} : SemG K (gTup K 3 (gCons (gName a) (gCons (gName b) (gCons (gName c) gNil)))) (rlD r) ρ (((ρ.set a (.dat (.txt r.part))).set b (.dat (.tup (r.row.map .txt)))).set c (.dat (.txt r.way))) :=
  sg_tup (sgs_cons sg_name (sgs_cons sg_name (sgs_cons sg_name sgs_nil))) rfl
def R__law_sum (ds : List Dat) (d : Dat) : Prop := ∃ c row, ds = [.dct (cD c), .tup (row.map .txt)] ∧ (∀ x ∈ row, OkT x ∧ lkind x = isKind x) ∧ (∀ x ∈ row, isKind x = false → hasC c x = true) ∧ row.length ≤ 1000 ∧ d = .int ((sumR c row : Nat) : Int)
theorem nd_of {p : Prop} [Decidable p] (h : (!decide p) = true) : ¬ p := by simpa using h
theorem atI_zero {α : Type} {x : α} {xs : List α} : atI (x :: xs) 0 = some x := by
  have := atI_getD (xs := x :: xs) (i := 0) x (by omega) (by simp only [List.length_cons]; omega)
  exact this
theorem atI_nat {α : Type} {xs : List α} {j : Nat} {x : α} (h : xs[j]? = some x) : atI xs (j : Int) = some x := by
  have hj : j < xs.length := (List.getElem?_eq_some_iff.mp h).1
  rw [atI_getD x (by omega) (by omega), List.getD_eq_getElem?_getD, Int.toNat_natCast, h]
  rfl
theorem cutA_to {α : Type} (t : List α) (p : Nat) : cutL t none (some (p : Int)) = t.take p := by
  unfold cutL
  rw [HT.sIx_none, HT.sIx_nat, Nat.sub_zero, List.drop_zero]
  by_cases h : p ≤ t.length
  · rw [Nat.min_eq_left h]
  · rw [Nat.min_eq_right (by omega), List.take_length, List.take_of_length_le (by omega)]
theorem cutA_from {α : Type} (t : List α) (p : Nat) : cutL t (some (p : Int)) none = t.drop p := by
  unfold cutL
  rw [HT.sIx_none, HT.sIx_nat]
  by_cases h : p ≤ t.length
  · rw [Nat.min_eq_left h, List.take_of_length_le (by rw [List.length_drop]; omega)]
  · rw [Nat.min_eq_right (by omega), Nat.sub_self, List.take_zero, List.drop_of_length_le (by omega)]

/-! ### which parts may be empty, what rows begin with -/
inductive Nul (rs : List Rule) : Tx → Prop
  | mk {r : Rule} : r ∈ rs → (∀ s ∈ r.row, Nul rs s) → Nul rs r.part
theorem Nul.rule {rs : List Rule} {p : Tx} (h : Nul rs p) : ∃ r ∈ rs, r.part = p ∧ ∀ s ∈ r.row, Nul rs s := by
  cases h with
  | mk hr hs => exact ⟨_, hr, rfl, hs⟩
theorem Nul.nk {rs : List Rule} (wf : Wf rs) {p : Tx} (h : Nul rs p) : isKind p = false := by
  obtain ⟨r, hr, rfl, _⟩ := h.rule
  exact (wf.r r hr).pk
/-- the part leads to rows that begin with the kind -/
inductive Fst (rs : List Rule) : Tx → Tx → Prop
  | kind {r : Rule} {pre post : List Tx} {s : Tx} : r ∈ rs → r.row = pre ++ s :: post → (∀ x ∈ pre, Nul rs x) → isKind s = true → Fst rs r.part s
  | part {r : Rule} {pre post : List Tx} {s k : Tx} : r ∈ rs → r.row = pre ++ s :: post → (∀ x ∈ pre, Nul rs x) → isKind s = false → Fst rs s k → Fst rs r.part k
def RowF (rs : List Rule) (row : List Tx) (k : Tx) : Prop := ∃ pre s post, row = pre ++ s :: post ∧ (∀ x ∈ pre, Nul rs x) ∧ ((isKind s = true ∧ s = k) ∨ (isKind s = false ∧ Fst rs s k))
theorem Fst.of {rs : List Rule} {r : Rule} {k : Tx} (hr : r ∈ rs) (h : RowF rs r.row k) : Fst rs r.part k := by
  obtain ⟨pre, s, post, e, hp, ⟨hk, rfl⟩ | ⟨hk, hf⟩⟩ := h
  · exact .kind hr e hp hk
  · exact .part hr e hp hk hf
theorem Fst.row {rs : List Rule} {p k : Tx} (h : Fst rs p k) : ∃ r ∈ rs, r.part = p ∧ RowF rs r.row k := by
  cases h with
  | kind hr e hp hk => exact ⟨_, hr, rfl, _, _, _, e, hp, .inl ⟨hk, rfl⟩⟩
  | part hr e hp hk hf => exact ⟨_, hr, rfl, _, _, _, e, hp, .inr ⟨hk, hf⟩⟩
theorem Fst.isK {rs : List Rule} {p k : Tx} (h : Fst rs p k) : isKind k = true ∧ ∃ r ∈ rs, k ∈ r.row := by
  induction h with
  | @kind r pre post s hr e hp hk => exact ⟨hk, r, hr, by rw [e]; exact List.mem_append_right _ (.head _)⟩
  | part _ _ _ _ _ ih => exact ih
theorem RowF.isK {rs : List Rule} {row : List Tx} {k : Tx} (h : RowF rs row k) : isKind k = true ∧ (k ∈ row ∨ ∃ r ∈ rs, k ∈ r.row) := by
  obtain ⟨pre, s, post, e, hp, ⟨hk, rfl⟩ | ⟨hk, hf⟩⟩ := h
  · exact ⟨hk, .inl (by rw [e]; exact List.mem_append_right _ (.head _))⟩
  · exact ⟨hf.isK.1, .inr hf.isK.2⟩
theorem RowF.cons {rs : List Rule} {row : List Tx} {s k : Tx} (hs : Nul rs s) (h : RowF rs row k) : RowF rs (s :: row) k := by
  obtain ⟨pre, t, post, e, hp, h⟩ := h
  refine ⟨s :: pre, t, post, by rw [e]; rfl, fun x hx => ?_, h⟩
  rcases List.mem_cons.mp hx with rfl | z
  · exact hs
  · exact hp x z
theorem RowF.app {rs : List Rule} {row more : List Tx} {k : Tx} (h : RowF rs row k) : RowF rs (row ++ more) k := by
  obtain ⟨pre, t, post, e, hp, h⟩ := h
  exact ⟨pre, t, post ++ more, by rw [e, List.append_assoc]; rfl, hp, h⟩
theorem RowF.pre {rs : List Rule} {l row : List Tx} {k : Tx} (hl : ∀ x ∈ l, Nul rs x) (h : RowF rs row k) : RowF rs (l ++ row) k := by
  induction l with
  | nil => exact h
  | cons x l ih => exact (ih fun y hy => hl y (.tail _ hy)).cons (hl x (.head _))
/-! ### lists each of whose things is there once -/
def addS (l : List Tx) (x : Tx) : List Tx := if x ∈ l then l else l ++ [x]
theorem mem_addS {l : List Tx} {x y : Tx} : y ∈ addS l x ↔ y ∈ l ∨ y = x := by
  unfold addS
  split
  · rename_i h
    exact ⟨.inl, fun q => q.elim id fun e => e ▸ h⟩
  · rw [List.mem_append, List.mem_singleton]
theorem addS_nd {l : List Tx} {x : Tx} (h : l.Nodup) : (addS l x).Nodup := by
  unfold addS
  split
  · exact h
  · rename_i hk
    rw [List.nodup_append]
    refine ⟨h, List.nodup_cons.mpr ⟨by simp, List.nodup_nil⟩, fun a ha b hb => ?_⟩
    rw [List.mem_singleton.mp hb]
    exact fun e => hk (e ▸ ha)
theorem mem_adds {y : Tx} : ∀ {m l : List Tx}, y ∈ m.foldl addS l ↔ y ∈ l ∨ y ∈ m
  | [], l => by simp
  | x :: m, l => by
    rw [List.foldl_cons, mem_adds, mem_addS, List.mem_cons]
    exact ⟨fun h => h.elim (fun h => h.elim .inl fun e => .inr (.inl e)) fun h => .inr (.inr h), fun h => h.elim (fun h => .inl (.inl h)) fun h => h.elim (fun e => .inl (.inr e)) .inr⟩
theorem adds_nd : ∀ {m l : List Tx}, l.Nodup → (m.foldl addS l).Nodup
  | [], _, h => h
  | _ :: m, _, h => adds_nd (m := m) (addS_nd h)
theorem adds_pre : ∀ {m l : List Tx}, ∃ t, m.foldl addS l = l ++ t
  | [], l => ⟨[], by simp⟩
  | x :: m, l => by
    obtain ⟨t, e⟩ := adds_pre (m := m) (l := addS l x)
    rw [List.foldl_cons, e]
    unfold addS
    split
    · exact ⟨t, rfl⟩
    · exact ⟨x :: t, by rw [List.append_assoc]; rfl⟩
/-! ### the empty ones -/
def bst (b : List Tx) (r : Rule) : List Tx := if !decide (r.part ∈ b) && r.row.all (fun s => decide (s ∈ b)) then b ++ [r.part] else b
abbrev Bst := List Tx × Bool
def bBody (rs : List Rule) (s : Bst) : Bst := (rs.foldl bst s.1, decide (rs.foldl bst s.1 ≠ s.1))
theorem bfold_pre : ∀ {l : List Rule} {b : List Tx}, ∃ t, l.foldl bst b = b ++ t
  | [], b => ⟨[], by simp⟩
  | r :: l, b => by
    obtain ⟨t, e⟩ := bfold_pre (l := l) (b := bst b r)
    rw [List.foldl_cons, e]
    unfold bst
    split
    · exact ⟨r.part :: t, by rw [List.append_assoc]; rfl⟩
    · exact ⟨t, rfl⟩
structure BI (rs : List Rule) (b : List Tx) : Prop where
  nd : b.Nodup
  s : ∀ p ∈ b, Nul rs p
theorem BI.step {rs : List Rule} {b : List Tx} {r : Rule} (h : BI rs b) (hr : r ∈ rs) : BI rs (bst b r) := by
  unfold bst
  split
  · rename_i hc
    rw [Bool.and_eq_true, List.all_eq_true] at hc
    have hn : ¬ r.part ∈ b := nd_of hc.1
    refine ⟨?_, fun p hp => ?_⟩
    · rw [List.nodup_append]
      refine ⟨h.nd, List.nodup_cons.mpr ⟨by simp, List.nodup_nil⟩, fun a ha c hc => ?_⟩
      rw [List.mem_singleton.mp hc]
      exact fun e => hn (e ▸ ha)
    · rcases List.mem_append.mp hp with z | z
      · exact h.s p z
      · rw [List.mem_singleton.mp z]
        exact .mk hr fun s hs => h.s s (of_decide_eq_true (hc.2 s hs))
  · exact h
theorem BI.fold {rs : List Rule} : ∀ {l : List Rule} {b : List Tx}, BI rs b → (∀ r ∈ l, r ∈ rs) → BI rs (l.foldl bst b)
  | [], _, h, _ => h
  | r :: l, _, h, hl => BI.fold (l := l) (h.step (hl r (.head _))) fun x hx => hl x (.tail _ hx)
theorem BI.sub {rs : List Rule} {b : List Tx} (h : BI rs b) : ∀ p ∈ b, p ∈ pnames rs := fun p hp => by
  obtain ⟨r, hr, e, _⟩ := (h.s p hp).rule
  exact mem_pnames.mpr ⟨r, hr, e⟩
theorem BI.len {rs : List Rule} {b : List Tx} (h : BI rs b) : b.length ≤ (pnames rs).length := nodup_sub_len h.nd h.sub
theorem bare_ex (rs : List Rule) : ∃ e : Bst, ∃ n, Ends (fun s : Bst => s.2) (bBody rs) n ([], true) e := by
  have hm : ∀ s : Bst, BI rs s.1 → s.2 = true → (pnames rs).length - (bBody rs s).1.length < (pnames rs).length - s.1.length ∨ ((pnames rs).length - (bBody rs s).1.length = (pnames rs).length - s.1.length ∧ (if (bBody rs s).2 then 1 else 0) < (if s.2 then 1 else 0)) := fun s hs hc => by
    obtain ⟨t, e⟩ := bfold_pre (l := rs) (b := s.1)
    have h2 := (hs.fold (l := rs) fun r hr => hr).len
    rw [e, List.length_append] at h2
    show (pnames rs).length - (rs.foldl bst s.1).length < (pnames rs).length - s.1.length ∨ ((pnames rs).length - (rs.foldl bst s.1).length = (pnames rs).length - s.1.length ∧ (if decide (rs.foldl bst s.1 ≠ s.1) then 1 else 0) < (if s.2 then 1 else 0))
    cases t with
    | nil =>
      rw [List.append_nil] at e
      right
      rw [e, hc]
      simp
    | cons a t =>
      left
      rw [e, List.length_append]
      simp only [List.length_cons] at h2 ⊢
      omega
  obtain ⟨n, e, h⟩ := ends_by (c := fun s : Bst => s.2) (b := bBody rs) (fun s => BI rs s.1) (fun s => (pnames rs).length - s.1.length) (fun s => if s.2 then 1 else 0) (fun s hs _ => hs.fold fun r hr => hr) hm ([], true) ⟨List.nodup_nil, fun p hp => by cases hp⟩
  exact ⟨e, n, h⟩
noncomputable def bareF (rs : List Rule) : List Tx := (Classical.choose (bare_ex rs)).1
theorem bare_ends (rs : List Rule) : ∃ n, Ends (fun s : Bst => s.2) (bBody rs) n ([], true) (bareF rs, false) := by
  obtain ⟨n, h⟩ := Classical.choose_spec (bare_ex rs)
  have h2 := (h.inv (I := fun _ => True) (fun _ _ _ => trivial) trivial).2
  refine ⟨n, ?_⟩
  have e : (bareF rs, false) = Classical.choose (bare_ex rs) := by
    unfold bareF
    have : (Classical.choose (bare_ex rs)).2 = false := h2
    rw [← this]
  rw [e]
  exact h
theorem bfold_eq : ∀ {l : List Rule} {b : List Tx}, l.foldl bst b = b → ∀ r ∈ l, bst b r = b
  | [], _, _ => fun r hr => by cases hr
  | r :: l, b, he => by
    rw [List.foldl_cons] at he
    obtain ⟨t, e⟩ := bfold_pre (l := l) (b := bst b r)
    have z : bst b r = b := by
      have hl := congrArg List.length (e.symm.trans he)
      unfold bst at hl ⊢
      split at hl
      · rw [List.length_append, List.length_append] at hl
        simp only [List.length_cons, List.length_nil] at hl
        omega
      · rename_i hn; rw [if_neg hn]
    rw [z] at he
    intro x hx
    rcases List.mem_cons.mp hx with rfl | hx
    · exact z
    · exact bfold_eq he x hx
theorem bare_ok (rs : List Rule) : BI rs (bareF rs) ∧ ∀ p, Nul rs p → p ∈ bareF rs := by
  obtain ⟨n, h⟩ := bare_ends rs
  have hI := (h.inv (I := fun s => BI rs s.1 ∧ (s.2 = false → rs.foldl bst s.1 = s.1)) (fun s hs _ => ⟨hs.1.fold fun r hr => hr, fun hf => by
    have hf : decide (rs.foldl bst s.1 ≠ s.1) = false := hf
    have e : rs.foldl bst s.1 = s.1 := Classical.not_not.mp (of_decide_eq_false hf)
    show rs.foldl bst (rs.foldl bst s.1) = rs.foldl bst s.1
    rw [e, e]⟩) ⟨⟨List.nodup_nil, fun p hp => by cases hp⟩, fun h => by cases h⟩).1
  refine ⟨hI.1, fun p hp => ?_⟩
  have st := bfold_eq (hI.2 rfl)
  induction hp with
  | @mk r hr hs ih =>
    have e := st r hr
    have e : bst (bareF rs) r = bareF rs := e
    by_cases hm : r.part ∈ bareF rs
    · exact hm
    · unfold bst at e
      have ha : (r.row.all fun s => decide (s ∈ bareF rs)) = true := List.all_eq_true.mpr fun s hs' => decide_eq_true (ih s hs')
      rw [decide_eq_false hm, ha] at e
      have e : bareF rs ++ [r.part] = bareF rs := e
      have := congrArg List.length e
      rw [List.length_append] at this
      simp at this
theorem mem_bare {rs : List Rule} {p : Tx} : p ∈ bareF rs ↔ Nul rs p := ⟨(bare_ok rs).1.s p, (bare_ok rs).2 p⟩
/-! ### for each part some words: growing till nothing changes -/
abbrev Hd := List (Tx × List Tx)
def gH (h : Hd) (p : Tx) : List Tx := (getA h p).getD []
section
variable (g : Hd → Rule → List Tx)
def stG (h : Hd) (r : Rule) : Hd := putA h r.part ((g h r).foldl addS (gH h r.part))
abbrev Hst := Hd × Bool
def gBody (rs : List Rule) (s : Hst) : Hst := (rs.foldl (stG g) s.1, decide (rs.foldl (stG g) s.1 ≠ s.1))
end
def h0 (rs : List Rule) : Hd := (pnames rs).map fun p => (p, [])
structure HI (rs : List Rule) (cand : List Tx) (h : Hd) : Prop where
  k : keysA h = pnames rs
  n : ∀ p, (gH h p).Nodup
  c : ∀ p, ∀ x ∈ gH h p, x ∈ cand
def missH (cand : List Tx) (h : Hd) : Nat := (h.map fun e => (cand.filter fun x => !decide (x ∈ e.2)).length).sum
theorem HI.nd {rs : List Rule} {cand : List Tx} {h : Hd} (i : HI rs cand h) : (keysA h).Nodup := by rw [i.k]; exact pnames_nd rs
theorem gH_put {h : Hd} {p q : Tx} {l : List Tx} : gH (putA h p l) q = if q = p then l else gH h q := by
  unfold gH
  rw [getA_putA]
  split <;> rfl
theorem HI.has {rs : List Rule} {cand : List Tx} {h : Hd} (i : HI rs cand h) {r : Rule} (hr : r ∈ rs) : getA h r.part = some (gH h r.part) := by
  have : (getA h r.part).isSome = true := by rw [getA_isSome, i.k]; simpa using mem_pnames.mpr ⟨r, hr, rfl⟩
  unfold gH
  cases z : getA h r.part with
  | none => rw [z] at this; cases this
  | some v => rfl
theorem HI.step {rs : List Rule} {cand : List Tx} {g : Hd → Rule → List Tx} {h : Hd} {r : Rule} (i : HI rs cand h) (hr : r ∈ rs) (hg : ∀ x ∈ g h r, x ∈ cand) : HI rs cand (stG g h r) := by
  refine ⟨?_, fun p => ?_, fun p x hx => ?_⟩
  · unfold stG
    rw [keys_putA, i.k, if_pos (mem_pnames.mpr ⟨r, hr, rfl⟩)]
  · unfold stG
    rw [gH_put]
    split
    · exact adds_nd (i.n _)
    · exact i.n p
  · unfold stG at hx
    rw [gH_put] at hx
    split at hx
    · rcases mem_adds.mp hx with z | z
      · exact i.c _ x z
      · exact hg x z
    · exact i.c p x hx
theorem miss_put {cand : List Tx} {p : Tx} {l m : List Tx} {y : Tx} (hs : ∀ x ∈ l, x ∈ m) (hy : y ∈ cand) (h1 : y ∉ l) (h2 : y ∈ m) : ∀ {h : Hd}, (keysA h).Nodup → getA h p = some l → missH cand (h.map fun kv => if kv.1 = p then (kv.1, m) else kv) < missH cand h
  | [], _, e => by cases e
  | (j, x) :: r, nd, e => by
    have nd : (j :: keysA r).Nodup := nd
    rw [getA_cons] at e
    have lt1 : (cand.filter fun x => !decide (x ∈ m)).length < (cand.filter fun x => !decide (x ∈ l)).length := filter_lt (fun z _ hz => by
      have := nd_of hz
      have : z ∉ l := fun q => this (hs z q)
      simpa using this) hy (by simpa using h2) (by simpa using h1)
    rw [List.map_cons]
    by_cases q : j = p
    · rw [if_pos q] at e
      cases e
      rw [if_pos q]
      have same : (r.map fun kv => if kv.1 = p then (kv.1, m) else kv) = r := by
        rw [List.map_congr_left (g := id) fun kv hkv => ?_, List.map_id]
        have : kv.1 ≠ p := fun z => (List.nodup_cons.mp nd).1 (by rw [q, ← z]; exact List.mem_map.mpr ⟨kv, hkv, rfl⟩)
        rw [if_neg this]; rfl
      rw [same]
      unfold missH
      simp only [List.map_cons, List.sum_cons]
      omega
    · rw [if_neg q] at e
      rw [if_neg q]
      have := miss_put hs hy h1 h2 (List.nodup_cons.mp nd).2 e
      unfold missH at *
      simp only [List.map_cons, List.sum_cons]
      omega
theorem stG_lt {rs : List Rule} {cand : List Tx} {g : Hd → Rule → List Tx} {h : Hd} {r : Rule} (i : HI rs cand h) (hr : r ∈ rs) (hg : ∀ x ∈ g h r, x ∈ cand) : stG g h r = h ∨ missH cand (stG g h r) < missH cand h := by
  have hp := i.has hr
  obtain ⟨t, e⟩ := adds_pre (m := g h r) (l := gH h r.part)
  cases t with
  | nil =>
    left
    unfold stG
    rw [e, List.append_nil]
    exact putA_same i.nd hp
  | cons y t =>
    right
    have es : stG g h r = h.map fun kv => if kv.1 = r.part then (kv.1, gH h r.part ++ y :: t) else kv := by
      unfold stG putA
      rw [hp, e]
      rfl
    rw [es]
    have nd := adds_nd (m := g h r) (i.n r.part)
    rw [e] at nd
    have hy : y ∉ gH h r.part := fun z => (List.nodup_append.mp nd).2.2 y z y (.head _) rfl
    have hyc : y ∈ cand := by
      have : y ∈ (g h r).foldl addS (gH h r.part) := by rw [e]; exact List.mem_append_right _ (.head _)
      rcases mem_adds.mp this with z | z
      · exact absurd z hy
      · exact hg y z
    exact miss_put (fun x hx => List.mem_append_left _ hx) hyc hy (List.mem_append_right _ (.head _)) i.nd hp
section
variable {rs : List Rule} {cand : List Tx} {g : Hd → Rule → List Tx} (hg : ∀ h r, HI rs cand h → r ∈ rs → ∀ x ∈ g h r, x ∈ cand)
include hg
theorem HI.fold : ∀ {l : List Rule} {h : Hd}, HI rs cand h → (∀ r ∈ l, r ∈ rs) → HI rs cand (l.foldl (stG g) h)
  | [], _, i, _ => i
  | r :: l, h, i, hl => HI.fold (l := l) (i.step (hl r (.head _)) (hg h r i (hl r (.head _)))) fun x hx => hl x (.tail _ hx)
theorem gfold_lt : ∀ {l : List Rule} {h : Hd}, HI rs cand h → (∀ r ∈ l, r ∈ rs) → l.foldl (stG g) h = h ∨ missH cand (l.foldl (stG g) h) < missH cand h
  | [], _, _, _ => .inl rfl
  | r :: l, h, i, hl => by
    rw [List.foldl_cons]
    have h1 := stG_lt i (hl r (.head _)) (hg h r i (hl r (.head _)))
    have h2 := gfold_lt (l := l) (i.step (hl r (.head _)) (hg h r i (hl r (.head _)))) fun x hx => hl x (.tail _ hx)
    rcases h1 with e1 | e1
    · rw [e1] at h2 ⊢; exact h2
    · rcases h2 with e2 | e2
      · rw [e2]; exact .inr e1
      · exact .inr (Nat.lt_trans e2 e1)
theorem gfold_eq : ∀ {l : List Rule} {h : Hd}, HI rs cand h → (∀ r ∈ l, r ∈ rs) → l.foldl (stG g) h = h → ∀ r ∈ l, stG g h r = h
  | [], _, _, _, _ => fun r hr => by cases hr
  | r :: l, h, i, hl, he => by
    rw [List.foldl_cons] at he
    have h1 := stG_lt i (hl r (.head _)) (hg h r i (hl r (.head _)))
    have h2 := gfold_lt hg (l := l) (i.step (hl r (.head _)) (hg h r i (hl r (.head _)))) fun x hx => hl x (.tail _ hx)
    have z : stG g h r = h := by
      rcases h1 with z | z
      · exact z
      · rcases h2 with e | e
        · rw [e] at he; exact he
        · rw [he] at e; omega
    rw [z] at he
    intro x hx
    rcases List.mem_cons.mp hx with rfl | hx
    · exact z
    · exact gfold_eq i (fun x hx => hl x (.tail _ hx)) he x hx
theorem gH_ends (i0 : HI rs cand (h0 rs)) : ∃ e : Hst, ∃ n, Ends (fun s : Hst => s.2) (gBody g rs) n (h0 rs, true) e := by
  have hm : ∀ s : Hst, HI rs cand s.1 → s.2 = true → missH cand (gBody g rs s).1 < missH cand s.1 ∨ (missH cand (gBody g rs s).1 = missH cand s.1 ∧ (if (gBody g rs s).2 then 1 else 0) < (if s.2 then 1 else 0)) := fun s hs hc => by
    have := gfold_lt hg (l := rs) hs fun r hr => hr
    show missH cand (rs.foldl (stG g) s.1) < _ ∨ (missH cand (rs.foldl (stG g) s.1) = _ ∧ (if decide (rs.foldl (stG g) s.1 ≠ s.1) then 1 else 0) < _)
    rcases this with e | e
    · right; rw [e, hc]; simp
    · exact .inl e
  obtain ⟨n, e, h⟩ := ends_by (c := fun s : Hst => s.2) (b := gBody g rs) (fun s => HI rs cand s.1) (fun s => missH cand s.1) (fun s => if s.2 then 1 else 0) (fun s hs _ => HI.fold hg hs fun r hr => hr) hm (h0 rs, true) i0
  exact ⟨e, n, h⟩
end
theorem getA_h0 {rs : List Rule} (p : Tx) : gH (h0 rs) p = [] := by
  unfold gH h0
  have : ∀ l : List Tx, (getA (l.map fun p => (p, ([] : List Tx))) p).getD [] = [] := fun l => by
    induction l with
    | nil => rfl
    | cons x l ih =>
      rw [List.map_cons, getA_cons]
      split
      · rfl
      · exact ih
  exact this _
theorem h0_ok (rs : List Rule) (cand : List Tx) : HI rs cand (h0 rs) := by
  refine ⟨?_, fun p => ?_, fun p x hx => ?_⟩
  · unfold h0 keysA
    simp [Function.comp_def]
  · rw [getA_h0]; exact List.nodup_nil
  · rw [getA_h0] at hx; cases hx
def kinds (rs : List Rule) : List Tx := (rs.map fun r => r.row.filter isKind).flatten
theorem mem_kinds {rs : List Rule} {k : Tx} : k ∈ kinds rs ↔ isKind k = true ∧ ∃ r ∈ rs, k ∈ r.row := by
  unfold kinds
  rw [List.mem_flatten]
  constructor
  · rintro ⟨l, hl, hk⟩
    obtain ⟨r, hr, rfl⟩ := List.mem_map.mp hl
    exact ⟨(List.mem_filter.mp hk).2, r, hr, (List.mem_filter.mp hk).1⟩
  · rintro ⟨hk, r, hr, hm⟩
    exact ⟨_, List.mem_map.mpr ⟨r, hr, rfl⟩, List.mem_filter.mpr ⟨hm, hk⟩⟩
/-! ### the words with which rows begin, by what is known -/
def hdOf (h : Hd) (b : List Tx) : List Tx → List Tx → List Tx
  | [], acc => acc
  | s :: r, acc => if isKind s then addS acc s else if s ∈ b then hdOf h b r ((gH h s).foldl addS acc) else (gH h s).foldl addS acc
theorem hdOf_acc {h : Hd} {b : List Tx} : ∀ {row acc : List Tx} {x : Tx}, x ∈ acc → x ∈ hdOf h b row acc
  | [], _, _, hx => hx
  | s :: r, acc, x, hx => by
    unfold hdOf
    split
    · exact mem_addS.mpr (.inl hx)
    · split
      · exact hdOf_acc (mem_adds.mpr (.inl hx))
      · exact mem_adds.mpr (.inl hx)
theorem hdOf_nd {h : Hd} {b : List Tx} : ∀ {row acc : List Tx}, acc.Nodup → (hdOf h b row acc).Nodup
  | [], _, hx => hx
  | s :: r, acc, hx => by
    unfold hdOf
    split
    · exact addS_nd hx
    · split
      · exact hdOf_nd (adds_nd hx)
      · exact adds_nd hx
theorem hdOf_cand {h : Hd} {b cand : List Tx} (hh : ∀ p, ∀ x ∈ gH h p, x ∈ cand) : ∀ {row acc : List Tx}, (∀ x ∈ row, isKind x = true → x ∈ cand) → (∀ x ∈ acc, x ∈ cand) → ∀ x ∈ hdOf h b row acc, x ∈ cand
  | [], _, _, ha => ha
  | s :: r, acc, hr, ha => by
    unfold hdOf
    split
    · rename_i hk
      intro x hx
      rcases mem_addS.mp hx with z | rfl
      · exact ha x z
      · exact hr x (.head _) hk
    · have ha2 : ∀ x ∈ (gH h s).foldl addS acc, x ∈ cand := fun x hx => by
        rcases mem_adds.mp hx with z | z
        · exact ha x z
        · exact hh s x z
      split
      · exact hdOf_cand hh (fun x hx => hr x (.tail _ hx)) ha2
      · exact ha2
theorem hdOf_sound {rs : List Rule} {h : Hd} {b : List Tx} (hb : ∀ p ∈ b, Nul rs p) (hh : ∀ p, ∀ x ∈ gH h p, Fst rs p x) : ∀ {row acc : List Tx} {x : Tx}, x ∈ hdOf h b row acc → x ∈ acc ∨ RowF rs row x
  | [], _, _, hx => .inl hx
  | s :: r, acc, x, hx => by
    unfold hdOf at hx
    split at hx
    · rename_i hk
      rcases mem_addS.mp hx with z | rfl
      · exact .inl z
      · exact .inr ⟨[], x, r, rfl, fun y hy => (by cases hy), .inl ⟨hk, rfl⟩⟩
    · rename_i hk
      have hk : isKind s = false := by simpa using hk
      have one : x ∈ (gH h s).foldl addS acc → x ∈ acc ∨ RowF rs (s :: r) x := fun hx => by
        rcases mem_adds.mp hx with z | z
        · exact .inl z
        · exact .inr ⟨[], s, r, rfl, fun y hy => (by cases hy), .inr ⟨hk, hh s x z⟩⟩
      split at hx
      · rename_i hs
        rcases hdOf_sound hb hh hx with z | z
        · exact one z
        · exact .inr (z.cons (hb s hs))
      · exact one hx
theorem hdOf_all {rs : List Rule} (wf : Wf rs) {h : Hd} {b : List Tx} (hb : ∀ p, Nul rs p → p ∈ b) {s k : Tx} {post : List Tx} (hk : (isKind s = true ∧ s = k) ∨ (isKind s = false ∧ k ∈ gH h s)) : ∀ {pre acc : List Tx}, (∀ x ∈ pre, Nul rs x) → k ∈ hdOf h b (pre ++ s :: post) acc
  | [], acc, _ => by
    show k ∈ hdOf h b (s :: post) acc
    unfold hdOf
    rcases hk with ⟨h1, rfl⟩ | ⟨h1, h2⟩
    · rw [if_pos h1]; exact mem_addS.mpr (.inr rfl)
    · rw [if_neg (by rw [h1]; simp)]
      split
      · exact hdOf_acc (mem_adds.mpr (.inr h2))
      · exact mem_adds.mpr (.inr h2)
  | x :: pre, acc, hp => by
    have hx := hp x (.head _)
    rw [List.cons_append]
    unfold hdOf
    rw [if_neg (by rw [hx.nk wf]; simp), if_pos (hb x hx)]
    exact hdOf_all wf hb hk fun y hy => hp y (.tail _ hy)
noncomputable def gHeads (rs : List Rule) (h : Hd) (r : Rule) : List Tx := hdOf h (bareF rs) r.row []
theorem gHeads_cand {rs : List Rule} : ∀ h r, HI rs (kinds rs) h → r ∈ rs → ∀ x ∈ gHeads rs h r, x ∈ kinds rs := fun h r i hr =>
  hdOf_cand i.c (fun x hx hk => mem_kinds.mpr ⟨hk, r, hr, hx⟩) (fun x hx => by cases hx)
noncomputable def headsF (rs : List Rule) : Hd := (Classical.choose (gH_ends gHeads_cand (h0_ok rs (kinds rs)))).1
theorem heads_ends (rs : List Rule) : ∃ n, Ends (fun s : Hst => s.2) (gBody (gHeads rs) rs) n (h0 rs, true) (headsF rs, false) := by
  obtain ⟨n, h⟩ := Classical.choose_spec (gH_ends gHeads_cand (h0_ok rs (kinds rs)))
  have h2 := (h.inv (I := fun _ => True) (fun _ _ _ => trivial) trivial).2
  refine ⟨n, ?_⟩
  have e : (headsF rs, false) = Classical.choose (gH_ends gHeads_cand (h0_ok rs (kinds rs))) := by
    unfold headsF
    have : (Classical.choose (gH_ends gHeads_cand (h0_ok rs (kinds rs)))).2 = false := h2
    rw [← this]
  rw [e]
  exact h
theorem stable_inv {rs : List Rule} {cand : List Tx} {g : Hd → Rule → List Tx} (hg : ∀ h r, HI rs cand h → r ∈ rs → ∀ x ∈ g h r, x ∈ cand) {n : Nat} {h : Hd} (E : Ends (fun s : Hst => s.2) (gBody g rs) n (h0 rs, true) (h, false)) (J : Hd → Prop) (hJ : ∀ h r, HI rs cand h → r ∈ rs → J h → J (stG g h r)) (j0 : J (h0 rs)) : HI rs cand h ∧ J h ∧ ∀ r ∈ rs, stG g h r = h := by
  have fold : ∀ (l : List Rule) (h : Hd), (∀ r ∈ l, r ∈ rs) → HI rs cand h → J h → J (l.foldl (stG g) h) := fun l => by
    induction l with
    | nil => exact fun h _ _ hj => hj
    | cons r l ih => exact fun h hl i hj => ih _ (fun x hx => hl x (.tail _ hx)) (i.step (hl r (.head _)) (hg h r i (hl r (.head _)))) (hJ h r i (hl r (.head _)) hj)
  have hI := (E.inv (I := fun s => (HI rs cand s.1 ∧ J s.1) ∧ (s.2 = false → rs.foldl (stG g) s.1 = s.1)) (fun s hs _ => ⟨⟨HI.fold hg hs.1.1 fun r hr => hr, fold rs s.1 (fun r hr => hr) hs.1.1 hs.1.2⟩, fun hf => by
    have hf : decide (rs.foldl (stG g) s.1 ≠ s.1) = false := hf
    have e : rs.foldl (stG g) s.1 = s.1 := Classical.not_not.mp (of_decide_eq_false hf)
    show rs.foldl (stG g) (rs.foldl (stG g) s.1) = rs.foldl (stG g) s.1
    rw [e, e]⟩) ⟨⟨h0_ok rs cand, j0⟩, fun h => by cases h⟩).1
  exact ⟨hI.1.1, hI.1.2, gfold_eq hg hI.1.1 (fun r hr => hr) (hI.2 rfl)⟩
theorem stG_gets {g : Hd → Rule → List Tx} {h : Hd} {r : Rule} (e : stG g h r = h) {x : Tx} (hx : x ∈ g h r) : x ∈ gH h r.part := by
  have : gH (stG g h r) r.part = (g h r).foldl addS (gH h r.part) := by unfold stG; rw [gH_put, if_pos rfl]
  rw [e] at this
  rw [this]
  exact mem_adds.mpr (.inr hx)
theorem heads_ok {rs : List Rule} (wf : Wf rs) : HI rs (kinds rs) (headsF rs) ∧ ∀ p k, k ∈ gH (headsF rs) p ↔ Fst rs p k := by
  obtain ⟨n, E⟩ := heads_ends rs
  obtain ⟨hI, hJ, st⟩ := stable_inv gHeads_cand E (fun h => ∀ p, ∀ x ∈ gH h p, Fst rs p x) (fun h r i hr hj p x hx => by
    unfold stG at hx
    rw [gH_put] at hx
    split at hx
    · rename_i e
      subst e
      rcases mem_adds.mp hx with z | z
      · exact hj _ x z
      · rcases hdOf_sound (bare_ok rs).1.s hj z with q | q
        · cases q
        · exact Fst.of hr q
    · exact hj p x hx) (fun p x hx => by rw [getA_h0] at hx; cases hx)
  refine ⟨hI, fun p k => ⟨hJ p k, fun hf => ?_⟩⟩
  induction hf with
  | @kind r pre post s hr e hp hk => exact stG_gets (st r hr) (by unfold gHeads; rw [e]; exact hdOf_all wf (bare_ok rs).2 (.inl ⟨hk, rfl⟩) hp)
  | @part r pre post s k hr e hp hk _ ih => exact stG_gets (st r hr) (by unfold gHeads; rw [e]; exact hdOf_all wf (bare_ok rs).2 (.inr ⟨hk, ih⟩) hp)
/-! ### the law's own -/
def ofR (F : Hd) : List Tx → List Tx → List Tx
  | [], hs => hs
  | s :: r, hs => if [] ∈ hs then ofR F r ((hs.filter fun x => !decide (x = [])) ++ (if isKind s then [s] else gH F s).filter fun x => !decide (x ∈ hs.filter fun x => !decide (x = []))) else hs
def nextO (F : Hd) (s : Tx) (hs : List Tx) : List Tx := (hs.filter fun x => !decide (x = [])) ++ (if isKind s then [s] else gH F s).filter fun x => !decide (x ∈ hs.filter fun x => !decide (x = []))
theorem mem_nextO {F : Hd} {s : Tx} {hs : List Tx} {x : Tx} : x ∈ nextO F s hs ↔ (x ∈ hs ∧ x ≠ []) ∨ x ∈ (if isKind s then [s] else gH F s) := by
  unfold nextO
  rw [List.mem_append, List.mem_filter, List.mem_filter]
  constructor
  · rintro (⟨h1, h2⟩ | ⟨h1, h2⟩)
    · exact .inl ⟨h1, nd_of h2⟩
    · exact .inr h1
  · rintro (⟨h1, h2⟩ | h1)
    · exact .inl ⟨h1, by simpa using h2⟩
    · by_cases hm : x ∈ hs.filter fun x => !decide (x = [])
      · exact .inl ⟨(List.mem_filter.mp hm).1, (List.mem_filter.mp hm).2⟩
      · exact .inr ⟨h1, by rw [decide_eq_false hm]; rfl⟩
theorem nextO_nd {F : Hd} (hF : ∀ p, (gH F p).Nodup) {s : Tx} {hs : List Tx} (h : hs.Nodup) : (nextO F s hs).Nodup := by
  unfold nextO
  rw [List.nodup_append]
  refine ⟨List.Pairwise.filter _ h, ?_, fun a ha b hb e => ?_⟩
  · refine List.Pairwise.filter _ (?_ : List.Nodup _)
    split
    · exact List.nodup_cons.mpr ⟨by simp, List.nodup_nil⟩
    · exact hF s
  · subst e
    exact nd_of (List.mem_filter.mp hb).2 ha
theorem ofR_cons {F : Hd} {s : Tx} {r hs : List Tx} : ofR F (s :: r) hs = if [] ∈ hs then ofR F r (nextO F s hs) else hs := rfl
theorem ofR_nd {F : Hd} (hF : ∀ p, (gH F p).Nodup) : ∀ {row hs : List Tx}, hs.Nodup → (ofR F row hs).Nodup
  | [], _, h => h
  | s :: r, hs, h => by
    rw [ofR_cons]
    split
    · exact ofR_nd hF (nextO_nd hF h)
    · exact h
theorem ofR_keep {F : Hd} : ∀ {row hs : List Tx} {k : Tx}, k ≠ [] → k ∈ hs → k ∈ ofR F row hs
  | [], _, _, _, h => h
  | s :: r, hs, k, hk, h => by
    rw [ofR_cons]
    split
    · exact ofR_keep hk (mem_nextO.mpr (.inl ⟨h, hk⟩))
    · exact h
theorem ofR_cand {F : Hd} {cand : List Tx} (hF : ∀ p, ∀ x ∈ gH F p, x ∈ cand) : ∀ {row hs : List Tx}, (∀ x ∈ row, isKind x = true → x ∈ cand) → (∀ x ∈ hs, x ∈ cand) → ∀ x ∈ ofR F row hs, x ∈ cand
  | [], _, _, h => h
  | s :: r, hs, hr, h => by
    rw [ofR_cons]
    split
    · refine ofR_cand hF (fun x hx => hr x (.tail _ hx)) fun x hx => ?_
      rcases mem_nextO.mp hx with z | z
      · exact h x z.1
      · split at z
        · rename_i hk
          rw [List.mem_singleton.mp z]
          exact hr s (.head _) hk
        · exact hF s x z
    · exact h
theorem ofR_sound {rs : List Rule} {F : Hd} (hF : ∀ p, ∀ x ∈ gH F p, (x = [] ∧ Nul rs p) ∨ Fst rs p x) : ∀ {row hs pre : List Tx}, (∀ x ∈ hs, (x = [] ∧ ∀ y ∈ pre, Nul rs y) ∨ RowF rs pre x) → ∀ x ∈ ofR F row hs, (x = [] ∧ ∀ y ∈ pre ++ row, Nul rs y) ∨ RowF rs (pre ++ row) x
  | [], hs, pre, h => by rw [List.append_nil]; exact h
  | s :: r, hs, pre, h => by
    rw [ofR_cons]
    split
    · rename_i he
      have hn : ∀ y ∈ pre, Nul rs y := by
        rcases h [] he with z | z
        · exact z.2
        · have := z.isK.1
          exact absurd this (by decide +kernel)
      have := ofR_sound hF (row := r) (hs := nextO F s hs) (pre := pre ++ [s]) fun x hx => by
        rcases mem_nextO.mp hx with ⟨z1, z2⟩ | z
        · rcases h x z1 with q | q
          · exact absurd q.1 z2
          · exact .inr q.app
        · split at z
          · rename_i hk
            rw [List.mem_singleton.mp z]
            exact .inr ⟨pre, s, [], rfl, hn, .inl ⟨hk, rfl⟩⟩
          · rename_i hk
            have hk : isKind s = false := by simpa using hk
            rcases hF s x z with q | q
            · refine .inl ⟨q.1, fun y hy => ?_⟩
              rcases List.mem_append.mp hy with w | w
              · exact hn y w
              · rw [List.mem_singleton.mp w]; exact q.2
            · exact .inr ⟨pre, s, [], rfl, hn, .inr ⟨hk, q⟩⟩
      rw [List.append_assoc] at this
      exact this
    · rename_i he
      intro x hx
      rcases h x hx with q | q
      · exact absurd (q.1 ▸ hx) he
      · exact .inr q.app
theorem ofR_nul {rs : List Rule} (wf : Wf rs) {F : Hd} : ∀ {row hs : List Tx}, (∀ s ∈ row, Nul rs s ∧ [] ∈ gH F s) → [] ∈ hs → [] ∈ ofR F row hs
  | [], _, _, h => h
  | s :: r, hs, hr, h => by
    rw [ofR_cons, if_pos h]
    refine ofR_nul wf (fun x hx => hr x (.tail _ hx)) (mem_nextO.mpr (.inr ?_))
    have := hr s (.head _)
    rw [if_neg (by rw [this.1.nk wf]; simp)]
    exact this.2
theorem ofR_all {rs : List Rule} (wf : Wf rs) {F : Hd} {s k : Tx} {post : List Tx} (hk0 : k ≠ []) (hk : (isKind s = true ∧ s = k) ∨ (isKind s = false ∧ k ∈ gH F s)) : ∀ {pre hs : List Tx}, (∀ x ∈ pre, Nul rs x ∧ [] ∈ gH F x) → [] ∈ hs → k ∈ ofR F (pre ++ s :: post) hs
  | [], hs, _, h => by
    show k ∈ ofR F (s :: post) hs
    rw [ofR_cons, if_pos h]
    refine ofR_keep hk0 (mem_nextO.mpr (.inr ?_))
    rcases hk with ⟨h1, rfl⟩ | ⟨h1, h2⟩
    · rw [if_pos h1]; exact .head _
    · rw [if_neg (by rw [h1]; simp)]; exact h2
  | x :: pre, hs, hp, h => by
    have hx := hp x (.head _)
    rw [List.cons_append, ofR_cons, if_pos h]
    refine ofR_all wf hk0 hk (fun y hy => hp y (.tail _ hy)) (mem_nextO.mpr (.inr ?_))
    rw [if_neg (by rw [hx.1.nk wf]; simp)]
    exact hx.2
def gFst (F : Hd) (r : Rule) : List Tx := ofR F r.row [[]]
theorem gFst_cand {rs : List Rule} : ∀ F r, HI rs ([] :: kinds rs) F → r ∈ rs → ∀ x ∈ gFst F r, x ∈ [] :: kinds rs := fun F r i hr =>
  ofR_cand i.c (fun x hx hk => .tail _ (mem_kinds.mpr ⟨hk, r, hr, hx⟩)) (fun x hx => by rw [List.mem_singleton.mp hx]; exact .head _)
noncomputable def firstsF (rs : List Rule) : Hd := (Classical.choose (gH_ends gFst_cand (h0_ok rs ([] :: kinds rs)))).1
theorem firsts_ends (rs : List Rule) : ∃ n, Ends (fun s : Hst => s.2) (gBody gFst rs) n (h0 rs, true) (firstsF rs, false) := by
  obtain ⟨n, h⟩ := Classical.choose_spec (gH_ends gFst_cand (h0_ok rs ([] :: kinds rs)))
  have h2 := (h.inv (I := fun _ => True) (fun _ _ _ => trivial) trivial).2
  refine ⟨n, ?_⟩
  have e : (firstsF rs, false) = Classical.choose (gH_ends gFst_cand (h0_ok rs ([] :: kinds rs))) := by
    unfold firstsF
    have : (Classical.choose (gH_ends gFst_cand (h0_ok rs ([] :: kinds rs)))).2 = false := h2
    rw [← this]
  rw [e]
  exact h
theorem kind_ne {k : Tx} (h : isKind k = true) : k ≠ [] := fun e => by subst e; exact absurd h (by decide +kernel)
theorem firsts_ok {rs : List Rule} (wf : Wf rs) : HI rs ([] :: kinds rs) (firstsF rs) ∧ (∀ p, [] ∈ gH (firstsF rs) p ↔ Nul rs p) ∧ ∀ p k, k ≠ [] → (k ∈ gH (firstsF rs) p ↔ Fst rs p k) := by
  obtain ⟨n, E⟩ := firsts_ends rs
  obtain ⟨hI, hJ, st⟩ := stable_inv gFst_cand E (fun h => ∀ p, ∀ x ∈ gH h p, (x = [] ∧ Nul rs p) ∨ Fst rs p x) (fun h r i hr hj p x hx => by
    unfold stG at hx
    rw [gH_put] at hx
    split at hx
    · rename_i e
      subst e
      rcases mem_adds.mp hx with z | z
      · exact hj _ x z
      · have := ofR_sound hj (row := r.row) (hs := [[]]) (pre := []) (fun y hy => .inl ⟨List.mem_singleton.mp hy, fun w hw => by cases hw⟩) x z
        rcases this with q | q
        · exact .inl ⟨q.1, .mk hr q.2⟩
        · exact .inr (Fst.of hr q)
    · exact hj p x hx) (fun p x hx => by rw [getA_h0] at hx; cases hx)
  have hN : ∀ p, Nul rs p → [] ∈ gH (firstsF rs) p := fun p hp => by
    induction hp with
    | @mk r hr hs ih => exact stG_gets (st r hr) (ofR_nul wf (fun s hs' => ⟨hs s hs', ih s hs'⟩) (.head _))
  refine ⟨hI, fun p => ⟨fun h => ?_, hN p⟩, fun p k hk => ⟨fun h => ?_, fun hf => ?_⟩⟩
  · rcases hJ p [] h with q | q
    · exact q.2
    · exact absurd q.isK.1 (by decide +kernel)
  · rcases hJ p k h with q | q
    · exact absurd q.1 hk
    · exact q
  · induction hf with
    | @kind r pre post s hr e hp hk' => exact stG_gets (st r hr) (by unfold gFst; rw [e]; exact ofR_all wf hk (.inl ⟨hk', rfl⟩) (fun x hx => ⟨hp x hx, hN x (hp x hx)⟩) (.head _))
    | @part r pre post s k hr e hp hk' _ ih => exact stG_gets (st r hr) (by unfold gFst; rw [e]; exact ofR_all wf hk (.inr ⟨hk', ih hk⟩) (fun x hx => ⟨hp x hx, hN x (hp x hx)⟩) (.head _))
/-- the words with which a row begins, both ways -/
theorem hdOf_iff {rs : List Rule} (wf : Wf rs) {row : List Tx} {k : Tx} : k ∈ hdOf (headsF rs) (bareF rs) row [] ↔ RowF rs row k := by
  obtain ⟨_, hh⟩ := heads_ok wf
  constructor
  · intro h
    rcases hdOf_sound (bare_ok rs).1.s (fun p x hx => (hh p x).mp hx) h with q | q
    · cases q
    · exact q
  · rintro ⟨pre, s, post, e, hp, hk⟩
    rw [e]
    refine hdOf_all wf (bare_ok rs).2 ?_ hp
    rcases hk with q | ⟨q1, q2⟩
    · exact .inl q
    · exact .inr ⟨q1, (hh _ _).mpr q2⟩
theorem ofR_iff {rs : List Rule} (wf : Wf rs) {row : List Tx} {k : Tx} : k ∈ ofR (firstsF rs) row [[]] ↔ (k = [] ∧ ∀ s ∈ row, Nul rs s) ∨ RowF rs row k := by
  obtain ⟨_, hN, hF⟩ := firsts_ok wf
  constructor
  · intro h
    have := ofR_sound (rs := rs) (F := firstsF rs) (fun p x hx => ?_) (row := row) (hs := [[]]) (pre := []) (fun y hy => .inl ⟨List.mem_singleton.mp hy, fun w hw => by cases hw⟩) k h
    · rw [List.nil_append] at this; exact this
    · by_cases e : x = []
      · exact .inl ⟨e, (hN p).mp (e ▸ hx)⟩
      · exact .inr ((hF p x e).mp hx)
  · rintro (⟨rfl, h⟩ | ⟨pre, s, post, e, hp, hk⟩)
    · exact ofR_nul wf (fun s hs => ⟨h s hs, (hN s).mpr (h s hs)⟩) (.head _)
    · have hk0 : k ≠ [] := by
        rcases hk with ⟨q1, q2⟩ | ⟨q1, q2⟩
        · exact kind_ne (q2 ▸ q1)
        · exact kind_ne q2.isK.1
      rw [e]
      refine ofR_all wf hk0 ?_ (fun x hx => ⟨hp x hx, (hN x).mpr (hp x hx)⟩) (.head _)
      rcases hk with q | ⟨q1, q2⟩
      · exact .inl q
      · exact .inr ⟨q1, (hF _ _ hk0).mpr q2⟩

/-! ### lists of texts as dicts -/
def sD (l : List Tx) : List (Key × Dat) := l.map fun x => (kT x, .bl true)
theorem has_sD {x : Tx} : ∀ {l : List Tx}, (getA (sD l) (kT x)).isSome = decide (x ∈ l)
  | [] => rfl
  | y :: l => by
    show (if kT y = kT x then some (Dat.bl true) else getA (sD l) (kT x)).isSome = decide (x ∈ y :: l)
    by_cases e : y = x
    · rw [if_pos (by rw [e]), e]; simp
    · have e' : ¬ x = y := fun z => e z.symm
      rw [if_neg (fun z => e (kT_inj _ _ z)), has_sD]; simp [e']
theorem put_sD {x : Tx} {l : List Tx} : putA (sD l) (kT x) (.bl true) = sD (addS l x) := by
  unfold putA addS
  rw [has_sD]
  by_cases h : x ∈ l
  · rw [if_pos (by simpa using h), if_pos h]
    have : ∀ l : List Tx, ((sD l).map fun kv => if kv.1 = kT x then (kv.1, Dat.bl true) else kv) = sD l := fun l => by
      induction l with
      | nil => rfl
      | cons y l ih =>
        show (if kT y = kT x then (kT y, Dat.bl true) else (kT y, Dat.bl true)) :: ((sD l).map fun kv => if kv.1 = kT x then (kv.1, Dat.bl true) else kv) = _
        rw [ih]
        split <;> rfl
    exact this l
  · rw [if_neg (by simpa using h), if_neg h]
    unfold sD
    rw [List.map_append]
    rfl
theorem merge_sD : ∀ {m l : List Tx}, mergeA (sD l) (sD m) = sD (m.foldl addS l)
  | [], l => rfl
  | x :: m, l => by
    show mergeA (putA (sD l) (kT x) (.bl true)) (sD m) = _
    rw [put_sD, merge_sD]
    rfl
theorem sD_len (l : List Tx) : (sD l).length = l.length := List.length_map _
theorem sD_scal {l : List Tx} : ∀ e ∈ sD l, scalD e.2 = true := fun e he => by
  obtain ⟨x, _, rfl⟩ := List.mem_map.mp he
  rfl
theorem sD_keys (l : List Tx) : ((sD l).map fun e => kD e.1) = l.map .txt := by
  unfold sD
  rw [List.map_map]
  rfl
theorem sD_fst (l : List Tx) : (sD l).map (·.1) = l.map fun t => Sum.inr (strL t) := by
  unfold sD
  rw [List.map_map]
  rfl
/-! dicts of them -/
def hO (h : Hd) : List (Key × OD) := h.map fun p => (kT p.1, .pd (sD p.2))
def hF (h : Hd) : List (Key × Dat) := h.map fun p => (kT p.1, .dct (sD p.2))
theorem frz_hO : ∀ h : Hd, frzk (hO h) = hF h
  | [] => rfl
  | p :: h => by
    show (kT p.1, Dat.dct (sD p.2)) :: frzk (hO h) = _
    rw [frz_hO h]
    rfl
theorem get_hO (h : Hd) (p : Tx) : getA (hO h) (kT p) = (getA h p).map fun l => .pd (sD l) := getA_enc kT_inj (fun l : List Tx => OD.pd (sD l)) p h
theorem get_hF (h : Hd) (p : Tx) : getA (hF h) (kT p) = (getA h p).map fun l => .dct (sD l) := getA_enc kT_inj (fun l : List Tx => Dat.dct (sD l)) p h
theorem setA_enc {α β : Type} {f : α → β} {p : Tx} {l : α} : ∀ {h : List (Tx × α)}, (keysA h).Nodup → (getA h p).isSome = true → setA (h.map fun e => (kT e.1, f e.2)) (kT p) (f l) = (putA h p l).map fun e => (kT e.1, f e.2)
  | [], _, e => by cases e
  | (j, x) :: r, nd, e => by
    have nd' : (j :: keysA r).Nodup := nd
    have ep : putA ((j, x) :: r) p l = ((j, x) :: r).map fun kv => if kv.1 = p then (kv.1, l) else kv := by unfold putA; rw [if_pos e]
    rw [ep, List.map_cons]
    show (if kT j = kT p then (kT j, f l) :: r.map (fun e => (kT e.1, f e.2)) else (kT j, f x) :: setA (r.map fun e => (kT e.1, f e.2)) (kT p) (f l)) = _
    rw [getA_cons] at e
    by_cases q : j = p
    · rw [if_pos (by rw [q]), List.map_cons, if_pos q]
      have same : (r.map fun kv => if kv.1 = p then (kv.1, l) else kv) = r := by
        rw [List.map_congr_left (g := id) fun kv hkv => ?_, List.map_id]
        have : kv.1 ≠ p := fun z => (List.nodup_cons.mp nd').1 (by rw [q, ← z]; exact List.mem_map.mpr ⟨kv, hkv, rfl⟩)
        rw [if_neg this]; rfl
      rw [same]
      rfl
    · rw [if_neg q] at e
      rw [if_neg (fun z => q (kT_inj _ _ z)), List.map_cons, if_neg q, setA_enc (List.nodup_cons.mp nd').2 e]
      have ep2 : putA r p l = r.map fun kv => if kv.1 = p then (kv.1, l) else kv := by unfold putA; rw [if_pos e]
      rw [ep2]
      rfl
theorem putA_putA {κ α : Type} [DecidableEq κ] {h : List (κ × α)} {p : κ} {l m : α} (hp : (getA h p).isSome = true) : putA (putA h p l) p m = putA h p m := by
  have h2 : (getA (putA h p l) p).isSome = true := by rw [getA_putA, if_pos rfl]; rfl
  have e1 : putA h p l = h.map fun kv => if kv.1 = p then (kv.1, l) else kv := by unfold putA; rw [if_pos hp]
  have e2 : putA h p m = h.map fun kv => if kv.1 = p then (kv.1, m) else kv := by unfold putA; rw [if_pos hp]
  have e3 : putA (putA h p l) p m = (putA h p l).map fun kv => if kv.1 = p then (kv.1, m) else kv := by
    show (if (getA (putA h p l) p).isSome = true then _ else _) = _
    rw [if_pos h2]
  rw [e3, e1, e2, List.map_map]
  refine List.map_congr_left fun kv _ => ?_
  show (if (if kv.1 = p then (kv.1, l) else kv).1 = p then ((if kv.1 = p then (kv.1, l) else kv).1, m) else (if kv.1 = p then (kv.1, l) else kv)) = _
  by_cases q : kv.1 = p
  · rw [if_pos q, if_pos q, if_pos q]
  · rw [if_neg q, if_neg q]
theorem kinds_len {rs : List Rule} (wf : Wf rs) : (kinds rs).length ≤ 10000 := by
  have key : ∀ l : List Rule, (∀ r ∈ l, r.row.length ≤ 50) → (kinds l).length ≤ 50 * l.length := fun l => by
    induction l with
    | nil => exact fun _ => Nat.le_refl _
    | cons r l ih =>
      intro h
      have a := ih fun x hx => h x (.tail _ hx)
      have b := h r (.head _)
      have c : (r.row.filter isKind).length ≤ r.row.length := List.length_filter_le _ _
      unfold kinds at *
      rw [List.map_cons, List.flatten_cons, List.length_append, List.length_cons]
      omega
  have := key rs fun r hr => (wf.r r hr).l
  have := wf.l
  omega
/-! ### the numbers of a part's rules -/
abbrev By := List (Tx × List Nat)
def gN (b : By) (p : Tx) : List Nat := (getA b p).getD []
def addB (b : By) (p : Tx) (i : Nat) : By := putA b p (gN b p ++ [i])
def byN (rs : List Rule) : Nat → By
  | 0 => []
  | n + 1 => match rs[n]? with
    | some r => addB (byN rs n) r.part n
    | none => byN rs n
theorem byN_succ {rs : List Rule} {n : Nat} {r : Rule} (h : rs[n]? = some r) : byN rs (n + 1) = addB (byN rs n) r.part n := by
  show (match rs[n]? with | some r => addB (byN rs n) r.part n | none => byN rs n) = _
  rw [h]
theorem byN_keys {rs : List Rule} : ∀ {n : Nat}, n ≤ rs.length → keysA (byN rs n) = pnames (rs.take n)
  | 0, _ => rfl
  | n + 1, h => by
    have hr : rs[n]? = some rs[n] := List.getElem?_eq_getElem (by omega)
    rw [byN_succ hr, take_next hr, pnames_snoc]
    unfold addB
    rw [keys_putA, byN_keys (by omega)]
    by_cases hm : rs[n].part ∈ pnames (rs.take n)
    · rw [if_pos hm, if_pos hm]
    · rw [if_neg hm, if_neg hm]
def numsOf (rs : List Rule) (p : Tx) (n : Nat) : List Nat := (List.range n).filter fun k => decide ((rs.map Rule.part)[k]? = some p)
theorem byN_get {rs : List Rule} {p : Tx} : ∀ {n : Nat}, n ≤ rs.length → gN (byN rs n) p = numsOf rs p n
  | 0, _ => rfl
  | n + 1, h => by
    have hr : rs[n]? = some rs[n] := List.getElem?_eq_getElem (by omega)
    have ih := byN_get (rs := rs) (p := p) (n := n) (by omega)
    rw [byN_succ hr]
    unfold addB gN at *
    rw [getA_putA]
    unfold numsOf at *
    rw [List.range_succ, List.filter_append, ← ih]
    have hm : (rs.map Rule.part)[n]? = some (rs[n].part) := by rw [List.getElem?_map, hr]; rfl
    rw [List.filter_cons, hm]
    by_cases e : p = rs[n].part
    · rw [if_pos e, if_pos (by rw [e]; simp), e]
      rfl
    · have e' : ¬ rs[n].part = p := fun z => e z.symm
      rw [if_neg e, if_neg (by simp [e'])]
      simp
theorem nums_len {rs : List Rule} {p : Tx} {n : Nat} : (numsOf rs p n).length ≤ n := by
  have := List.length_filter_le (fun k => decide ((rs.map Rule.part)[k]? = some p)) (List.range n)
  rw [List.length_range] at this
  exact this
def inD (l : List Nat) : List Dat := l.map fun i : Nat => .int (i : Int)
def bO (b : By) : List (Key × OD) := b.map fun e => (kT e.1, .pl (inD e.2))
def bF (b : By) : List (Key × Dat) := b.map fun e => (kT e.1, .lst (inD e.2))
theorem frz_bO : ∀ b : By, frzk (bO b) = bF b
  | [] => rfl
  | e :: b => by
    show (kT e.1, Dat.lst (inD e.2)) :: frzk (bO b) = _
    rw [frz_bO b]
    rfl
theorem get_bO (b : By) (p : Tx) : getA (bO b) (kT p) = (getA b p).map fun l => .pl (inD l) := getA_enc kT_inj (fun l : List Nat => OD.pl (inD l)) p b
theorem get_bF (b : By) (p : Tx) : getA (bF b) (kT p) = (getA b p).map fun l => .lst (inD l) := getA_enc kT_inj (fun l : List Nat => Dat.lst (inD l)) p b
/-! ### Looks -/
structure KK (K : PySem.W.Frag) (X : Addr) : Prop where
  C : InsC K X
  nr : NoAttr K X "rules"
  np : NoAttr K X "by_part"
  nb : NoAttr K X "bare"
  nh : NoAttr K X "heads"
def lkF (rs : List Rule) (b : List Tx) (ph : Addr) (h : Hd) : List (Str × OD) := [("rules", .dat (.lst (rs.map rlD))), ("by_part", .dat (.dct (bF (byN rs rs.length)))), ("bare", .pd (sD b)), ("heads", .me ph (.dct (hO h)))]
def lkG (rs : List Rule) (b : List Tx) (h : Hd) : List (Str × Dat) := [("rules", .lst (rs.map rlD)), ("by_part", .dct (bF (byN rs rs.length))), ("bare", .dct (sD b)), ("heads", .dct (hF h))]
theorem frz_lk (X : Addr) (rs : List Rule) (b : List Tx) (ph : Addr) (h : Hd) : frz (.ins X (lkF rs b ph h)) = .ins X (lkG rs b h) := by
  show Dat.ins X [("rules", .lst (rs.map rlD)), ("by_part", .dct (bF (byN rs rs.length))), ("bare", .dct (sD b)), ("heads", .dct (frzk (hO h)))] = _
  rw [frz_hO]
  rfl
noncomputable def looksD (X : Addr) (rs : List Rule) : Dat := .ins X (lkG rs (bareF rs) (headsF rs))
section
variable {K : PySem.W.Frag} {W : WX} {X : Addr}
def R_bare (X : Addr) (as : List Sl) (out : Out) (as' : List Sl) : Prop := ∃ a rs ph, as = [.mt (.me a (.ins X (lkF rs [] ph [])))] ∧ Wf rs ∧ out = .val .non ∧ as' = [.mt (.me a (.ins X (lkF rs (bareF rs) ph [])))]
theorem keeps1 {x : Sl} {r : List Sl} : Keeps (x :: r) [x] := fun j a o h => by
  match j, h with
  | 0, h => exact h
  | _ + 1, h => cases h
theorem bst_take {rs : List Rule} {i : Nat} {r : Rule} {b : List Tx} (h : rs[i]? = some r) : (rs.take (i + 1)).foldl bst b = bst ((rs.take i).foldl bst b) r := by
  rw [take_next h, List.foldl_append]; rfl
set_option maxHeartbeats 2000000 in
theorem h_Looks_find_bare (kk : KK K X) (as : List Sl) (out : Out) (as' : List Sl) (h : R_bare X as out as') : SemS K W (T_Looks_find_bare K W) (as ++ List.replicate (6 - as.length) .no) (PL as' out) := by
  obtain ⟨a, rs, ph, rfl, wf, rfl, rfl⟩ := h
  have hS : sizeLine = 16777216 := rfl
  obtain ⟨n, E⟩ := bare_ends rs
  apply ss_seq
  refine ss_asg s_bl ?_
  refine ss_whileE (fun (s : Bst) ρ => ∃ s2 s3 s4 s5, ρ = [.mt (.me a (.ins X (lkF rs s.1 ph []))), .dat (.bl s.2), s2, s3, s4, s5]) (fun s => BI rs s.1) E ⟨List.nodup_nil, fun k hk => by cases hk⟩ ⟨_, _, _, _, rfl⟩ ?_ ?_
  · rintro ⟨b, ch⟩ ρ1 hI ⟨s2, s3, s4, s5, rfl⟩
    refine ⟨st_bl (s_var rfl), fun hc => ⟨hI.fold fun r hr => hr, ?_⟩⟩
    have hI : BI rs b := hI
    apply ss_seq
    refine ss_asg s_bl ?_
    refine ss_for (ds := rs.map rlD) (si_u (s_fldP (os := lkF rs b ph []) rfl kk.C.cl kk.nr rfl) rfl) (fun i ρ => ∃ s2 s3 s4 s5, ρ = [.mt (.me a (.ins X (lkF rs ((rs.take i).foldl bst b) ph []))), .dat (.bl (decide ((rs.take i).foldl bst b ≠ b))), s2, s3, s4, s5]) ⟨s2, s3, s4, s5, by simp⟩ ?_ ?_
    · rintro i d ρ1 hd ⟨s2, s3, s4, s5, rfl⟩
      obtain ⟨r, hr, rfl⟩ := getMap hd
      have hrm : r ∈ rs := List.mem_of_getElem? hr
      have wr := wf.r r hrm
      have hb1 : BI rs ((rs.take i).foldl bst b) := hI.fold fun x hx => List.mem_of_mem_take hx
      have hnext := bst_take (b := b) hr
      obtain ⟨t, et⟩ := bfold_pre (l := rs.take i) (b := b)
      generalize (rs.take i).foldl bst b = b1 at hb1 hnext et ⊢
      have hl := wr.l
      refine ⟨_, sg_rule, ?_⟩
      let gs : List (Str × Dat) := lkG rs b1 []
      have hbare : ∀ {ρ : List Sl}, ρ[0]? = some (.dat (.ins X gs)) → Sem K (tAt K "bare" (tVar 0)) ρ (.dct (sD b1)) := fun h0 => s_fldI (s_var h0) kk.C.cl kk.nb rfl
      refine ss_if (k := !decide (r.part ∈ b1) && r.row.all fun s => decide (s ∈ b1)) (st_peekA (st_and (st_is (st_tB (s_dnotin (es := sD b1) (s_var rfl) (hbare rfl) (k := kT r.part) rfl)) (by rw [has_sD])) fun _ => st_bl (s_cb (sa_cons (s_ofN (sn_lcM (xs := r.row) (enc := .txt) (g := fun x => .bl (decide (x ∈ b1))) (si_u (s_var rfl) rfl) (by omega) fun x hx => s_is (s_din (es := sD b1) (s_var rfl) (hbare rfl) (k := kT x) rfl) (by rw [has_sD]))) sa_nil) cs_allM))) (fun hk => ?_) (fun hk => ss_next ⟨.dat (.txt r.part), .dat (.tup (r.row.map .txt)), .dat (.txt r.way), s5, ?_⟩)
      · have e1 : bst b1 r = b1 ++ [r.part] := by unfold bst; rw [if_pos hk]
        have hn : ¬ r.part ∈ b1 := nd_of (Bool.and_eq_true_iff.mp hk).1
        apply ss_seq
        refine ss_dput (i := 0) (kvs := sD b1) (k := kT r.part) (d := .bl true) s_bl (f_fld (f_me (f_var (o := .me a (.ins X (lkF rs b1 ph []))) rfl)) kk.C.cl kk.nb rfl) (s_var rfl) (fun G v rv => rv.isKey rfl) (by rw [sD_len]; have := hb1.len; have := (wf_pn wf).2; omega) ?_
        rw [put_sD]
        have e2 : addS b1 r.part = bst b1 r := by rw [e1]; unfold addS; rw [if_neg hn]
        rw [e2]
        refine ss_asg s_bl ⟨.dat (.txt r.part), .dat (.tup (r.row.map .txt)), .dat (.txt r.way), s5, ?_⟩
        have hne : bst b1 r ≠ b := fun e => by
          have := congrArg List.length e
          rw [e1, et, List.length_append, List.length_append] at this
          simp only [List.length_cons, List.length_nil] at this
          omega
        rw [hnext, decide_eq_true hne]
        rfl
      · rw [hnext]
        have : bst b1 r = b1 := by unfold bst; rw [if_neg (by rw [hk]; simp)]
        rw [this]
        rfl
    · rintro ρ1 ⟨s2, s3, s4, s5, rfl⟩
      rw [List.length_map, List.take_length]
      exact ⟨s2, s3, s4, s5, rfl⟩
  · rintro ρ1 hI _ ⟨s2, s3, s4, s5, rfl⟩
    exact ⟨rfl, keeps1⟩
/-! heads_of -/
def R_hof (X : Addr) (ds : List Dat) (o : Out) : Prop := ∃ fs b h row, ds = [.ins X fs, .tup (row.map .txt)] ∧ fs.lookup (Str.ofString "bare") = some (.dct (sD b)) ∧ fs.lookup (Str.ofString "heads") = some (.dct (hF h)) ∧ (∀ x ∈ row, OkT x) ∧ row.length ≤ 50 ∧ (∀ p, (gH h p).length ≤ 10000) ∧ o = .mt (.pd (sD (hdOf h b row [])))
theorem addS_len (l : List Tx) (x : Tx) : (addS l x).length ≤ l.length + 1 := by
  unfold addS
  split
  · omega
  · rw [List.length_append]; simp
theorem adds_len : ∀ (m l : List Tx), (m.foldl addS l).length ≤ l.length + m.length
  | [], l => Nat.le_refl _
  | x :: m, l => by
    have := adds_len m (addS l x)
    have := addS_len l x
    rw [List.foldl_cons, List.length_cons]
    omega
theorem hdOf_cons {h : Hd} {b : List Tx} {s : Tx} {r acc : List Tx} : hdOf h b (s :: r) acc = if isKind s then addS acc s else if s ∈ b then hdOf h b r ((gH h s).foldl addS acc) else (gH h s).foldl addS acc := rfl
theorem h_Looks_heads_of (kk : KK K X) (ds : List Dat) (o : Out) (h : R_hof X ds o) : SemS K W (T_Looks_heads_of K (spD K R_is_kind) W) (slots 4 ds) (PO o) := by
  obtain ⟨fs, b, h, row, rfl, hb, hh, hok, hrl, hgl, rfl⟩ := h
  have hS : sizeLine = 16777216 := rfl
  apply ss_seq
  refine ss_asgM sm_dnew ?_
  apply ss_seq
  refine ss_for (ds := row.map .txt) (si_u (s_var rfl) rfl) (fun i ρ => ∃ acc s3, ρ = [.dat (.ins X fs), .dat (.tup (row.map .txt)), .mt (.pd (sD acc)), s3] ∧ hdOf h b (row.drop i) acc = hdOf h b row [] ∧ acc.length ≤ 10001 * i) ⟨[], _, rfl, rfl, Nat.le_refl _⟩ ?_ ?_
  · rintro i d ρ1 hd ⟨acc, s3, rfl, he, hal⟩
    obtain ⟨s, hs, rfl⟩ := getMap hd
    have hi : i < row.length := (List.getElem?_eq_some_iff.mp hs).1
    have hdr : row.drop i = s :: row.drop (i + 1) := by
      rw [List.drop_eq_getElem_cons hi]
      congr 1
      exact (List.getElem?_eq_some_iff.mp hs).2
    rw [hdr] at he
    have hsl := hgl s
    have hal2 : acc.length ≤ 510000 := by
      have : 10001 * i ≤ 10001 * 50 := Nat.mul_le_mul_left _ (by omega)
      omega
    refine ⟨_, sg_name, ?_⟩
    apply ss_seq
    refine ss_if (k := isKind s) (st_bl (s_pkind rfl (hok s (List.mem_of_getElem? hs)))) (fun hk => ?_) (fun hk => ss_next ?_)
    · apply ss_seq
      refine ss_dput (i := 2) (kvs := sD acc) (k := kT s) (d := .bl true) s_bl (f_var rfl) (s_var rfl) (fun G v rv => rv.isKey rfl) (by rw [sD_len]; omega) ?_
      refine ss_retOwn (i := 2) (o := .pd (putA (sD acc) (kT s) (.bl true))) rfl ?_
      show OD.pd _ = OD.pd _
      rw [put_sD, ← he, hdOf_cons, if_pos hk]
    · have hk' : ¬ isKind s = true := by rw [hk]; simp
      apply ss_seq
      refine ss_dupd (i := 2) (kvs := sD acc) (es := sD (gH h s)) (f_var rfl) (s_is (s_dget2 (es := hF h) (s_fldI (s_var rfl) kk.C.cl kk.nh hh) (s_var rfl) (k := kT s) rfl s_dnew) ?_) (by rw [sD_len, sD_len]; omega) ?_
      · rw [get_hF]
        unfold gH
        cases getA h s <;> rfl
      · rw [merge_sD]
        rw [hdOf_cons, if_neg hk'] at he
        refine ss_if (k := !decide (s ∈ b)) (st_is (st_peekA (st_tB (s_dnotin (es := sD b) (s_var rfl) (s_fldI (C := X) (gs := fs) (s_var rfl) kk.C.cl kk.nb hb) (k := kT s) rfl))) (by rw [has_sD])) (fun hn => ?_) (fun hn => ss_next ?_)
        · rw [if_neg (nd_of hn)] at he
          refine ss_retOwn (i := 2) (o := .pd (sD ((gH h s).foldl addS acc))) rfl ?_
          show OD.pd _ = OD.pd _
          rw [he]
        · have hm : s ∈ b := by simpa using hn
          rw [if_pos hm] at he
          refine ⟨(gH h s).foldl addS acc, .dat (.txt s), rfl, he, ?_⟩
          have := adds_len (gH h s) acc
          have : 10001 * (i + 1) = 10001 * i + 10001 := by omega
          omega
  · rintro ρ1 ⟨acc, s3, rfl, he, _⟩
    rw [List.length_map, List.drop_length] at he
    refine ss_retOwn (i := 2) (o := .pd (sD acc)) rfl ?_
    show OD.pd (sD acc) = OD.pd _
    rw [← he]
    rfl
end

/-! ### rising rows of texts -/
open PySem.W (dataLe dataLt Sortable)
def srt (l : List Tx) : List Tx := l.mergeSort (dataLe false fun b => toPy (.txt b))
theorem srt_perm (l : List Tx) : (srt l).Perm l := List.mergeSort_perm _ _
theorem srt_lt {l : List Tx} (nd : l.Nodup) : (srt l).Pairwise (· < ·) := by
  have h1 : (srt l).Pairwise fun a b => dataLe false (fun b => toPy (.txt b)) a b = true := List.pairwise_mergeSort (le := dataLe false fun b => toPy (.txt b)) (fun a b c => dataLe_trans _ a b c) (fun a b => dataLe_total _ a b) l
  have h2 : (srt l).Nodup := (srt_perm l).nodup_iff.mpr nd
  have h3 := List.pairwise_and_iff.mpr ⟨h1, h2⟩
  refine h3.imp fun {a b} h => ?_
  obtain ⟨ha, hb⟩ := h
  have e : dataLe false (fun b => toPy (.txt b)) a b = !dataLt (toPy (.txt b)) (toPy (.txt a)) := rfl
  rw [e, lt_txt] at ha
  have hn : ¬ b < a := nd_of ha
  by_cases q : a < b
  · exact q
  · exact absurd (List.le_antisymm (List.not_lt.mp hn) (List.not_lt.mp q)) hb
theorem srt_eq {l m : List Tx} (h1 : l.Nodup) (h2 : m.Nodup) (h : ∀ x, x ∈ l ↔ x ∈ m) : srt l = srt m := by
  have p : l.Perm m := by
    rw [List.perm_ext_iff_of_nodup h1 h2]
    exact h
  refine sort_one (lt := fun a b : List Nat => a < b) (((srt_perm l).trans p).trans (srt_perm m).symm) ((srt_lt h1).imp fun {a b} hab hba => ?_) (srt_lt h2)
  exact List.lt_irrefl a (List.lt_trans hab hba)
section
variable {K : PySem.W.Frag} {ρ : List Sl} {te : TE} {u : TA}
theorem sn_sortedT {l : List Tx} (h : SemA K u ρ [.lst (l.map .txt)]) : SemN K (tCB (uSorted K) u) ρ ((srt l).map .txt) :=
  sn_sorted (enc := .txt) h (fun _ _ => rfl) (fun _ _ _ _ => rfl) (.inr fun d hd => by
    obtain ⟨b, _, rfl⟩ := List.mem_map.mp hd
    exact ⟨(by intro h; cases h), (by intro xs h; cases h)⟩) (fun _ _ => Nat.zero_le _)
theorem sn_sortSetT {l out : List Tx} (h : Sem K te ρ (.lst (l.map .txt))) (hl : l.length ≤ 3900) (h1 : out.Nodup) (h2 : ∀ b, b ∈ out ↔ b ∈ l) (h3 : out.Pairwise (· < ·)) : SemN K (tSortSet K te) ρ (out.map .txt) := by
  refine sn_sortSet (enc := .txt) h ⟨fun _ _ => rfl, .inl ⟨fun _ _ => rfl, hl⟩, fun a _ b _ e => ?_⟩ (fun _ _ _ _ => rfl) (.inr fun d hd => ?_) h1 h2 (h3.imp fun {a b} hab => by rw [lt_txt]; simpa using hab)
  · have e : PyData.str (strL a) = PyData.str (strL b) := e
    injection e with e
    exact strL_inj e
  · obtain ⟨b, _, rfl⟩ := List.mem_map.mp hd
    exact ⟨(by intro h; cases h), (by intro xs h; cases h)⟩
theorem sn_sortDT {l : List Tx} (h : SemA K u ρ [.dct (sD l)]) (nd : l.Nodup) (h64 : l.length < 64) : SemN K (tCB uSortD u) ρ ((srt l).map .txt) :=
  sn_sortD h (sD_fst l) h64 (srt_perm l) (srt_lt nd)
end
/-! ### find_heads -/
section
variable {K : PySem.W.Frag} {W : WX} {X : Addr}
theorem getA_none {κ α : Type} [DecidableEq κ] {c : List (κ × α)} {k : κ} (h : k ∉ keysA c) : getA c k = none := by
  cases z : getA c k with
  | none => rfl
  | some v => exact absurd (List.mem_map.mpr ⟨_, getA_some z, rfl⟩) h
def R_heads (X : Addr) (as : List Sl) (out : Out) (as' : List Sl) : Prop := ∃ a rs ph, as = [.mt (.me a (.ins X (lkF rs (bareF rs) ph [])))] ∧ Wf rs ∧ out = .val .non ∧ as' = [.mt (.me a (.ins X (lkF rs (bareF rs) ph (headsF rs))))]
theorem bF_keys (b : By) : ((bF b).map fun e => kD e.1) = (keysA b).map .txt := by
  unfold bF keysA
  rw [List.map_map, List.map_map]
  rfl
theorem by_keys (rs : List Rule) : keysA (byN rs rs.length) = pnames rs := by rw [byN_keys (Nat.le_refl _), List.take_length]
theorem HI.glen {rs : List Rule} {cand : List Tx} {h : Hd} (i : HI rs cand h) (p : Tx) : (gH h p).length ≤ cand.length := nodup_sub_len (i.n p) (i.c p)
theorem stG_take {g : Hd → Rule → List Tx} {rs : List Rule} {i : Nat} {r : Rule} {h : Hd} (e : rs[i]? = some r) : (rs.take (i + 1)).foldl (stG g) h = stG g ((rs.take i).foldl (stG g) h) r := by
  rw [take_next e, List.foldl_append]; rfl
set_option maxHeartbeats 4000000 in
theorem h_Looks_find_heads {mh : List (Addr × Sp)} (kk : KK K X) (hm : (X, spO K (R_hof X)) ∈ mh) (as : List Sl) (out : Out) (as' : List Sl) (h : R_heads X as out as') : SemS K W (T_Looks_find_heads K mh W) (as ++ List.replicate (6 - as.length) .no) (PL as' out) := by
  obtain ⟨a, rs, ph, rfl, wf, rfl, rfl⟩ := h
  have hS : sizeLine = 16777216 := rfl
  obtain ⟨pn1, pn2⟩ := wf_pn wf
  have pnd := pnames_nd rs
  have hkl := kinds_len wf
  obtain ⟨n, E⟩ := heads_ends rs
  generalize hbb : bareF rs = b at *
  have ekeys : ((bF (byN rs rs.length)).map fun e => kD e.1) = (pnames rs).map .txt := by rw [bF_keys, by_keys]
  apply ss_seq
  refine ss_forK (es := bF (byN rs rs.length)) (pth_fldM (os := lkF rs b ph []) rfl kk.C.cl kk.np rfl) (fun i ρ => ∃ s1, ρ = [.mt (.me a (.ins X (lkF rs b ph (((pnames rs).take i).map fun p => (p, []))))), s1, .no, .no, .no, .no]) ⟨_, rfl⟩ ?_ ?_
  · rintro i d ρ1 hd ⟨s1, rfl⟩
    rw [ekeys] at hd
    obtain ⟨p, hp, rfl⟩ := getMap hd
    have hi : i < (pnames rs).length := (List.getElem?_eq_some_iff.mp hp).1
    refine ⟨_, sg_name, ?_⟩
    have hnew : getA (hO (((pnames rs).take i).map fun p => (p, ([] : List Tx)))) (kT p) = none := by
      rw [get_hO]
      rw [getA_none (c := ((pnames rs).take i).map fun p => (p, ([] : List Tx))) fun hm => ?_]
      · rfl
      · unfold keysA at hm
        rw [List.map_map] at hm
        obtain ⟨q, hq, e⟩ := List.mem_map.mp hm
        have e : q = p := e
        subst e
        have h1 : (pnames rs).take (i + 1) = (pnames rs).take i ++ [q] := take_next hp
        have h2 : ((pnames rs).take (i + 1)).Nodup := pnd.sublist (List.take_sublist _ _)
        rw [h1] at h2
        exact (List.nodup_append.mp h2).2.2 q hq q (.head _) rfl
    refine ss_dputMF (i := 0) (p0 := ph) (kvs := hO (((pnames rs).take i).map fun p => (p, []))) (k := kT p) (o := .pd []) sm_dnew (fa_fld (f := "heads") (fa_me (fa_var rfl)) rfl) (f_fld (f_me (f_var rfl)) kk.C.cl kk.nh rfl) (s_var rfl) (fun G v rv => rv.isKey rfl) (by unfold hO; rw [List.length_map, List.length_map, List.length_take]; omega) hnew ?_
    refine ⟨.dat (.txt p), ?_⟩
    rw [take_next hp, List.map_append]
    have : hO ((((pnames rs).take i).map fun p => (p, ([] : List Tx))) ++ [p].map fun p => (p, [])) = hO (((pnames rs).take i).map fun p => (p, [])) ++ [(kT p, .pd [])] := by
      unfold hO
      rw [List.map_append]
      rfl
    unfold lkF
    rw [this]
    rfl
  · rintro ρ1 ⟨s1, rfl⟩
    rw [ekeys, List.length_map, List.take_length]
    apply ss_seq
    refine ss_asg s_bl ?_
    refine ss_whileE (fun (s : Hst) ρ => ∃ s1 s3 s4 s5, ρ = [.mt (.me a (.ins X (lkF rs b ph s.1))), s1, .dat (.bl s.2), s3, s4, s5]) (fun s => HI rs (kinds rs) s.1) E (h0_ok rs _) ⟨_, _, _, _, rfl⟩ ?_ ?_
    · rintro ⟨hs, ch⟩ ρ1 hI ⟨s1, s3, s4, s5, rfl⟩
      refine ⟨st_bl (s_var rfl), fun hc => ⟨HI.fold gHeads_cand hI fun r hr => hr, ?_⟩⟩
      have hI : HI rs (kinds rs) hs := hI
      apply ss_seq
      refine ss_asg s_bl ?_
      refine ss_for (ds := rs.map rlD) (si_u (s_fldP (os := lkF rs b ph hs) rfl kk.C.cl kk.nr rfl) rfl) (fun i ρ => ∃ s1 s3 s4 s5, ρ = [.mt (.me a (.ins X (lkF rs b ph ((rs.take i).foldl (stG (gHeads rs)) hs)))), s1, .dat (.bl (decide ((rs.take i).foldl (stG (gHeads rs)) hs ≠ hs))), s3, s4, s5]) ⟨s1, s3, s4, s5, by simp⟩ ?_ ?_
      · rintro i d ρ1 hd ⟨s1, s3, s4, s5, rfl⟩
        obtain ⟨r, hr, rfl⟩ := getMap hd
        have hrm : r ∈ rs := List.mem_of_getElem? hr
        have wr := wf.r r hrm
        have i1 : HI rs (kinds rs) ((rs.take i).foldl (stG (gHeads rs)) hs) := HI.fold gHeads_cand hI fun x hx => List.mem_of_mem_take hx
        have hnext := stG_take (g := gHeads rs) (h := hs) hr
        have hlt := gfold_lt gHeads_cand (l := rs.take i) hI fun x hx => List.mem_of_mem_take hx
        have hcand := gHeads_cand _ r i1 hrm
        generalize (rs.take i).foldl (stG (gHeads rs)) hs = h at i1 hnext hlt hcand ⊢
        have hl := wr.l
        have hpart := i1.has hrm
        have hps : (getA h r.part).isSome = true := by rw [hpart]; rfl
        have el : gHeads rs h r = hdOf h b r.row [] := by unfold gHeads; rw [hbb]
        -- what is so on the way
        generalize hle : gHeads rs h r = l at *
        have cur : ∀ j, HI rs (kinds rs) (putA h r.part ((l.take j).foldl addS (gH h r.part))) := fun j => i1.step (g := fun _ _ => l.take j) hrm fun x hx => hcand x (List.mem_of_mem_take hx)
        have curlt : ∀ j, putA h r.part ((l.take j).foldl addS (gH h r.part)) = hs ∨ missH (kinds rs) (putA h r.part ((l.take j).foldl addS (gH h r.part))) < missH (kinds rs) hs := fun j => by
          have := stG_lt (g := fun _ _ => l.take j) i1 hrm fun x hx => hcand x (List.mem_of_mem_take hx)
          have this : putA h r.part ((l.take j).foldl addS (gH h r.part)) = h ∨ missH (kinds rs) (putA h r.part ((l.take j).foldl addS (gH h r.part))) < missH (kinds rs) h := this
          rcases this with e | e
          · rw [e]; exact hlt
          · rcases hlt with y | y
            · rw [y] at e ⊢; exact .inr e
            · exact .inr (Nat.lt_trans e y)
        refine ⟨_, sg_rule, ?_⟩
        have it : SemI K (iKeysT (tMu mh "heads_of" (WE W) (tVar 0) (tCons (tVar 3) tNil))) [.mt (.me a (.ins X (lkF rs b ph h))), .dat (.txt r.part), .dat (.bl (decide (h ≠ hs))), .dat (.tup (r.row.map .txt)), .dat (.txt r.way), s5] (l.map .txt) := by
          have := si_keysT (es := sD l) (sm_peekD (K := K) (ρ := [.mt (.me a (.ins X (lkF rs b ph h))), .dat (.txt r.part), .dat (.bl (decide (h ≠ hs))), .dat (.tup (r.row.map .txt)), .dat (.txt r.way), s5]) (te := tMu mh "heads_of" (WE W) (tVar 0) (tCons (tVar 3) tNil)) sD_scal (sm_mu (C := X) (fs := [("rules", .lst (rs.map rlD)), ("by_part", .dct (bF (byN rs rs.length))), ("bare", .dct (sD b)), ("heads", .dct (frzk (hO h)))]) (s_var rfl) (sa_cons (s_var rfl) sa_nil) hm rfl ⟨_, b, h, r.row, rfl, rfl, by rw [← frz_hO]; rfl, fun x hx => (wr.s x hx).1, hl, fun p => Nat.le_trans (i1.glen p) hkl, by rw [el]⟩))
          rw [sD_keys] at this
          exact this
        refine ss_for (ds := l.map .txt) it (fun j ρ => ∃ s5, ρ = [.mt (.me a (.ins X (lkF rs b ph (putA h r.part ((l.take j).foldl addS (gH h r.part)))))), .dat (.txt r.part), .dat (.bl (decide (putA h r.part ((l.take j).foldl addS (gH h r.part)) ≠ hs))), .dat (.tup (r.row.map .txt)), .dat (.txt r.way), s5]) ⟨s5, by
            have : putA h r.part ((l.take 0).foldl addS (gH h r.part)) = h := putA_same i1.nd hpart
            rw [this]; rfl⟩ ?_ ?_
        · rintro j d ρ1 hd ⟨s5, rfl⟩
          obtain ⟨k, hk, rfl⟩ := getMap hd
          have ic := cur j
          have ic1 := cur (j + 1)
          have lc := curlt j
          have hkc : k ∈ kinds rs := hcand k (List.mem_of_getElem? hk)
          have enx : (l.take (j + 1)).foldl addS (gH h r.part) = addS ((l.take j).foldl addS (gH h r.part)) k := by rw [take_next hk, List.foldl_append]; rfl
          rw [enx] at ic1
          rw [enx]
          have hX : gH (putA h r.part ((l.take j).foldl addS (gH h r.part))) r.part = (l.take j).foldl addS (gH h r.part) := by rw [gH_put, if_pos rfl]
          have hg1 : getA (putA h r.part ((l.take j).foldl addS (gH h r.part))) r.part = some ((l.take j).foldl addS (gH h r.part)) := by rw [getA_putA, if_pos rfl]
          have epp : ∀ m, putA (putA h r.part ((l.take j).foldl addS (gH h r.part))) r.part m = putA h r.part m := fun m => putA_putA hps
          have hlenX : ((l.take j).foldl addS (gH h r.part)).length ≤ 10000 := by rw [← hX]; exact Nat.le_trans (ic.glen _) hkl
          generalize (l.take j).foldl addS (gH h r.part) = Xj at ic ic1 lc hX hg1 epp hlenX ⊢
          generalize hcu : putA h r.part Xj = cu at ic lc hX hg1 epp ⊢
          refine ⟨_, sg_name, ?_⟩
          refine ss_if (k := !decide (k ∈ Xj)) (st_peekA (st_is (st_tB (s_dnotin (es := sD Xj) (s_var rfl) (s_dget (es := frzk (hO cu)) (s_fldI (C := X) (gs := [("rules", .lst (rs.map rlD)), ("by_part", .dct (bF (byN rs rs.length))), ("bare", .dct (sD b)), ("heads", .dct (frzk (hO cu)))]) (s_var rfl) kk.C.cl kk.nh rfl) (s_var rfl) (k := kT r.part) rfl (by rw [frz_hO, get_hF, hg1]; rfl)) (k := kT k) rfl)) (by rw [has_sD]))) (fun hn => ?_) (fun hn => ss_next ⟨.dat (.txt k), ?_⟩)
          · have hkn : ¬ k ∈ Xj := nd_of hn
            have ea : addS Xj k = Xj ++ [k] := by unfold addS; rw [if_neg hkn]
            have eset : setA (hO cu) (kT r.part) (.pd (sD (addS Xj k))) = hO (putA h r.part (addS Xj k)) := by
              rw [← epp]
              exact setA_enc (f := fun l : List Tx => OD.pd (sD l)) ic.nd (by rw [hg1]; rfl)
            apply ss_seq
            refine ss_dput (i := 0) (kvs := sD Xj) (k := kT k) (d := .bl true) s_bl (f_key (k := kT r.part) (f_me (f_fld (f_me (f_var (o := .me a (.ins X (lkF rs b ph cu))) rfl)) kk.C.cl kk.nh rfl)) (s_var rfl) (fun G v rv => rv.isKey rfl) (by rw [get_hO, hg1]; rfl)) (s_var rfl) (fun G v rv => rv.isKey rfl) (by rw [sD_len]; omega) ?_
            rw [put_sD]
            refine ss_asg s_bl ⟨.dat (.txt k), ?_⟩
            have hlt2 : missH (kinds rs) (putA h r.part (addS Xj k)) < missH (kinds rs) cu := by
              have := stG_lt (g := fun _ _ => [k]) ic hrm fun x hx => by rw [List.mem_singleton.mp hx]; exact hkc
              have e9 : stG (fun _ _ => [k]) cu r = putA h r.part (addS Xj k) := by
                unfold stG
                rw [hX, ← epp]
                rfl
              rw [e9] at this
              rcases this with e | e
              · have e8 := congrArg (fun z => gH z r.part) e
                have e8 : gH (putA h r.part (addS Xj k)) r.part = gH cu r.part := e8
                rw [gH_put, if_pos rfl, hX, ea] at e8
                have := congrArg List.length e8
                rw [List.length_append] at this
                simp at this
              · exact e
            have hne : putA h r.part (addS Xj k) ≠ hs := fun e => by
              rw [e] at hlt2
              rcases lc with q | q
              · rw [q] at hlt2; exact Nat.lt_irrefl _ hlt2
              · exact Nat.lt_irrefl _ (Nat.lt_trans hlt2 q)
            rw [decide_eq_true hne]
            show [Sl.mt (.me a (.ins X [("rules", .dat (.lst (rs.map rlD))), ("by_part", .dat (.dct (bF (byN rs rs.length)))), ("bare", .pd (sD b)), ("heads", .me ph (.dct (setA (hO cu) (kT r.part) (.pd (sD (addS Xj k))))))])), _, _, _, _, _] = _
            rw [eset]
            rfl
          · have hkn : k ∈ Xj := by simpa using hn
            have ea : addS Xj k = Xj := by unfold addS; rw [if_pos hkn]
            rw [ea, hcu]
            rfl
        · rintro ρ1 ⟨s5, rfl⟩
          rw [List.length_map, List.take_length]
          refine ⟨.dat (.txt r.part), .dat (.tup (r.row.map .txt)), .dat (.txt r.way), s5, ?_⟩
          rw [hnext]
          unfold stG
          rw [hle]
      · rintro ρ1 ⟨s1, s3, s4, s5, rfl⟩
        rw [List.length_map, List.take_length]
        exact ⟨s1, s3, s4, s5, rfl⟩
    · rintro ρ1 hI _ ⟨s1, s3, s4, s5, rfl⟩
      exact ⟨rfl, keeps1⟩
end

/-! ### Looks is made -/
noncomputable def looksO (X : Addr) (rs : List Rule) : OD := .ins X [("rules", .dat (.lst (rs.map rlD))), ("by_part", .dat (.dct (bF (byN rs rs.length)))), ("bare", .pd (sD (bareF rs))), ("heads", .dct (hO (headsF rs)))]
theorem frz_looks (X : Addr) (rs : List Rule) : frz (looksO X rs) = looksD X rs := by
  show Dat.ins X [("rules", .lst (rs.map rlD)), ("by_part", .dct (bF (byN rs rs.length))), ("bare", .dct (sD (bareF rs))), ("heads", .dct (frzk (hO (headsF rs))))] = _
  rw [frz_hO]
  rfl
def ShL (s : Sl) (ds : List Dat) : Prop := s = .dat (.lst ds) ∨ ∃ p, s = .mt (.me p (.pl ds))
theorem keepsB {x y : Sl} {r : List Sl} : Keeps (x :: y :: r) [x, y] := fun j a o h => by
  match j, h with
  | 0, h => exact h
  | 1, h => exact h
  | _ + 2, h => cases h
theorem agree2 {a : Addr} {o o' : OD} {s : Sl} {ds : List Dat} (h : ShL s ds) : Agree [.mt (.me a o), s] [.mt (.me a o'), s] := by
  refine ⟨rfl, fun j d e => ?_, fun j x e => ?_⟩
  · match j, e with
    | 0, e => cases e
    | 1, e => exact e
    | _ + 2, e => cases e
  · match j, e with
    | 0, e => cases e; exact ⟨a, o, o', rfl, rfl⟩
    | 1, e =>
      have e : some s = some (.mt x) := e
      rcases h with rfl | ⟨p, rfl⟩
      · cases e
      · cases e; exact ⟨p, _, _, rfl, rfl⟩
    | _ + 2, e => cases e
theorem zipIdx_mem {α : Type} {l : List α} {z : α × Nat} (h : z ∈ l.zipIdx) : l[z.2]? = some z.1 := by
  obtain ⟨x, i⟩ := z
  exact List.mk_mem_zipIdx_iff_getElem?.mp h
theorem putA_last {κ α : Type} [DecidableEq κ] {b : List (κ × α)} {p : κ} {x y : α} (h : p ∉ keysA b) : putA (b ++ [(p, x)]) p y = b ++ [(p, y)] := by
  have hs : (getA (b ++ [(p, x)]) p).isSome = true := by
    rw [getA_append, getA_none h]
    show ((none : Option α).or (if p = p then some x else none)).isSome = true
    rw [if_pos rfl]; rfl
  unfold putA
  rw [if_pos hs, List.map_append]
  congr 1
  · rw [List.map_congr_left (g := id) fun kv hkv => ?_, List.map_id]
    have : kv.1 ≠ p := fun z => h (by rw [← z]; exact List.mem_map.mpr ⟨kv, hkv, rfl⟩)
    rw [if_neg this]; rfl
  · show [if p = p then (p, y) else (p, x)] = _
    rw [if_pos rfl]
section
variable {K : PySem.W.Frag} {W : WX} {X : Addr}
def R_Looks (X : Addr) (as : List Sl) (out : Out) (as' : List Sl) : Prop := ∃ a s rs, as = [.mt (.me a (.ins X [])), s] ∧ ShL s (rs.map rlD) ∧ Wf rs ∧ out = .val .non ∧ as' = [.mt (.me a (looksO X rs)), s]
theorem byN_nd {rs : List Rule} {n : Nat} (h : n ≤ rs.length) : (keysA (byN rs n)).Nodup := by rw [byN_keys h]; exact pnames_nd _
theorem byN_len {rs : List Rule} {n : Nat} (h : n ≤ rs.length) : (byN rs n).length ≤ n := by
  have := byN_keys h
  have h2 := congrArg List.length this
  unfold keysA at h2
  rw [List.length_map] at h2
  have h3 := pnames_le (rs.take n)
  rw [List.length_take] at h3
  omega
set_option maxHeartbeats 4000000 in
theorem h_Looks___init__ {mb mh : List (Addr × Sp)} (kk : KK K X) (hb : (X, spL K (R_bare X)) ∈ mb) (hh : (X, spL K (R_heads X)) ∈ mh) (as : List Sl) (out : Out) (as' : List Sl) (h : R_Looks X as out as') : SemS K W (T_Looks___init__ K mb mh W) (as ++ List.replicate (4 - as.length) .no) (PL as' out) := by
  obtain ⟨a, s, rs, rfl, hs, wf, rfl, rfl⟩ := h
  have hS : sizeLine = 16777216 := rfl
  have hrl := wf.l
  apply ss_seq
  have h1 : SemM K (tCB (uList K) (tCons (tVar 1) tNil)) [.mt (.me a (.ins X [])), s, .no, .no] (.pl (rs.map rlD)) := by
    rcases hs with rfl | ⟨p, rfl⟩
    · exact sm_ofN (sn_list (sa_cons (s_var rfl) sa_nil) rfl)
    · exact sm_ofN (sn_listF (f_me (f_var (i := 1) rfl)))
  refine ss_fld (i := 0) (f := "rules") (os := []) rfl h1 kk.C.cl kk.nr (by decide) ?_
  refine ss_freezeF (i := 0) (fa_fld (f := "rules") (fa_me (fa_var (o := .me a (.ins X [("rules", .pl (rs.map rlD))])) rfl)) rfl) ?_
  apply ss_seq
  refine ss_fld (i := 0) (f := "by_part") (os := [("rules", .dat (.lst (rs.map rlD)))]) rfl sm_dnewO kk.C.cl kk.np (by show 1 < 1000; decide) ?_
  refine ss_name (i := 0) (fa_fld (f := "by_part") (fa_me (fa_var (o := .me a (.ins X [("rules", .dat (.lst (rs.map rlD))), ("by_part", .dct [])])) rfl)) rfl) rfl fun pb => ?_
  let o1 : By → OD := fun b => .ins X [("rules", .dat (.lst (rs.map rlD))), ("by_part", .me pb (.dct (bO b)))]
  apply ss_seq
  refine ss_for (ds := rs.zipIdx.map fun z => .tup [.int ((z.2 : Nat) : Int), rlD z.1]) ?_ (fun i ρ => ∃ s2 s3, ρ = [.mt (.me a (o1 (byN rs i))), s, s2, s3]) ⟨_, _, rfl⟩ ?_ ?_
  · have := si_enumU (K := K) (ρ := [.mt (.me a (o1 [])), s, .no, .no]) (u := tCons (tAt K "rules" (tVar 0)) tNil) (ds := rs.map rlD) (q := false) (sa_cons (s_fldP (os := [("rules", .dat (.lst (rs.map rlD))), ("by_part", .me pb (.dct (bO [])))]) rfl kk.C.cl kk.nr rfl) sa_nil)
    rw [List.zipIdx_map, List.map_map] at this
    exact this
  · rintro i d ρ1 hd ⟨s2, s3, rfl⟩
    obtain ⟨z, hz, rfl⟩ := getMap hd
    obtain ⟨r, k⟩ := z
    have hzk : rs[i]? = some r ∧ i = k := by
      rw [List.getElem?_zipIdx] at hz
      cases q : rs[i]? with
      | none => rw [q] at hz; cases hz
      | some r' =>
        rw [q] at hz
        have hz := Option.some.inj hz
        have e1 : r' = r := congrArg Prod.fst hz
        have e2 : 0 + i = k := congrArg Prod.snd hz
        exact ⟨by rw [e1], by omega⟩
    obtain ⟨hr, rfl⟩ := hzk
    have hi : i < rs.length := (List.getElem?_eq_some_iff.mp hr).1
    have hnx := byN_succ hr
    have hnd := byN_nd (rs := rs) (n := i) (by omega)
    have hbl := byN_len (rs := rs) (n := i) (by omega)
    have hgl : (gN (byN rs i) r.part).length ≤ i := by rw [byN_get (by omega)]; exact nums_len
    generalize byN rs i = b at hnx hnd hbl hgl ⊢
    refine ⟨_, sg_tup (sgs_cons sg_name (sgs_cons sg_name sgs_nil)) rfl, ?_⟩
    have bol : (bO b).length < sizeLine := by unfold bO; rw [List.length_map]; omega
    cases hg : getA b r.part with
    | some l =>
      have hgl2 : l.length ≤ i := by unfold gN at hgl; rw [hg] at hgl; exact hgl
      refine ss_setdApp1 (i := 0) (p0 := pb) (kvs := bO b) (k := kT r.part) (ds := inD l) (d := .int (i : Int)) (f_fld (f_me (f_var (o := .me a (o1 b)) rfl)) kk.C.cl kk.np rfl) (s_rpart rfl) (fun G v rv => rv.isKey rfl) bol (by rw [get_bO, hg]; rfl) (s_var rfl) (by unfold inD; rw [List.length_map]; omega) ?_
      refine ⟨.dat (.int (i : Int)), .dat (rlD r), ?_⟩
      have e1 : setA (bO b) (kT r.part) (.pl (inD l ++ [.int (i : Int)])) = bO (addB b r.part i) := by
        have : inD l ++ [.int (i : Int)] = inD (l ++ [i]) := by unfold inD; rw [List.map_append]; rfl
        rw [this]
        unfold addB gN
        rw [hg]
        exact setA_enc (f := fun l : List Nat => OD.pl (inD l)) hnd (by rw [hg]; rfl)
      rw [hnx, e1]
      rfl
    | none =>
      have hnk : r.part ∉ keysA b := fun hm => by
        have : (getA b r.part).isSome = true := by
          obtain ⟨kv, hkv, e⟩ := List.mem_map.mp hm
          have := getA_mem hnd (k := kv.1) (v := kv.2) hkv
          rw [← e, this]; rfl
        rw [hg] at this; cases this
      have hgO : getA (bO b) (kT r.part) = none := by rw [get_bO, hg]; rfl
      refine ss_setdApp0 (i := 0) (p0 := pb) (kvs := bO b) (k := kT r.part) (d := .int (i : Int)) (f_fld (f_me (f_var (o := .me a (o1 b)) rfl)) kk.C.cl kk.np rfl) (s_rpart rfl) (fun G v rv => rv.isKey rfl) bol hgO (fa_fld (f := "by_part") (fa_me (fa_var (o := .me a (.ins X [("rules", .dat (.lst (rs.map rlD))), ("by_part", .me pb (.dct (bO b ++ [(kT r.part, .pl [])])))])) rfl)) rfl) (s_var rfl) ?_
      refine ⟨.dat (.int (i : Int)), .dat (rlD r), ?_⟩
      have e1 : setA (bO b ++ [(kT r.part, .pl [])]) (kT r.part) (.pl [.int (i : Int)]) = bO (addB b r.part i) := by
        have e2 : bO b ++ [(kT r.part, .pl [])] = bO (b ++ [(r.part, [])]) := by unfold bO; rw [List.map_append]; rfl
        have nd2 : (keysA (b ++ [(r.part, ([] : List Nat))])).Nodup := by
          unfold keysA
          rw [List.map_append, List.nodup_append]
          refine ⟨hnd, List.nodup_cons.mpr ⟨by simp, List.nodup_nil⟩, fun x hx y hy e => ?_⟩
          have hy : y ∈ [r.part] := hy
          rw [List.mem_singleton.mp hy] at e
          exact hnk (e ▸ hx)
        have e3 : addB b r.part i = putA (b ++ [(r.part, [])]) r.part [i] := by
          rw [putA_last hnk]
          unfold addB gN
          rw [hg]
          exact putA_new hg
        rw [e2, e3]
        refine setA_enc (f := fun l : List Nat => OD.pl (inD l)) (l := [i]) nd2 ?_
        rw [getA_append, hg]
        show ((none : Option (List Nat)).or (if r.part = r.part then some [] else none)).isSome = true
        rw [if_pos rfl]; rfl
      rw [hnx, e1]
      rfl
  · rintro ρ1 ⟨s2, s3, rfl⟩
    rw [List.length_map, List.length_zipIdx]
    refine ss_freezeF (i := 0) (fa_fld (f := "by_part") (fa_me (fa_var (o := .me a (o1 (byN rs rs.length))) rfl)) rfl) ?_
    have e0 : (frz (.me pb (.dct (bO (byN rs rs.length))))) = .dct (bF (byN rs rs.length)) := by
      show Dat.dct (frzk (bO (byN rs rs.length))) = _
      rw [frz_bO]
    rw [e0]
    apply ss_seq
    refine ss_fld (i := 0) (f := "bare") (os := [("rules", .dat (.lst (rs.map rlD))), ("by_part", .dat (.dct (bF (byN rs rs.length))))]) rfl sm_dnew kk.C.cl kk.nb (by show 2 < 1000; decide) ?_
    apply ss_seq
    refine ss_fld (i := 0) (f := "heads") (os := [("rules", .dat (.lst (rs.map rlD))), ("by_part", .dat (.dct (bF (byN rs rs.length)))), ("bare", .pd [])]) rfl sm_dnewO kk.C.cl kk.nh (by show 3 < 1000; decide) ?_
    refine ss_name (i := 0) (fa_fld (f := "heads") (fa_me (fa_var (o := .me a (.ins X [("rules", .dat (.lst (rs.map rlD))), ("by_part", .dat (.dct (bF (byN rs rs.length)))), ("bare", .pd []), ("heads", .dct [])])) rfl)) rfl) rfl fun ph => ?_
    apply ss_seq
    refine ss_dropE (S := fun d ρ' => ρ' = [.mt (.me a (.ins X (lkF rs (bareF rs) ph []))), s, s2, s3]) (X := noX) (se_mu (d := .non) (o' := .ins X (lkF rs (bareF rs) ph [])) (f_me (f_var (i := 0) (o := .me a (.ins X (lkF rs [] ph []))) rfl)) rfl hb sa_nil (fun a => ⟨a, rs, ph, rfl, wf, rfl, rfl⟩) rfl) ?_ (fun _ _ _ z => z.elim)
    rintro d ρ' rfl
    apply ss_post
    refine ss_dropE (S := fun d ρ' => ρ' = [.mt (.me a (.ins X (lkF rs (bareF rs) ph (headsF rs)))), s, s2, s3]) (X := noX) (se_mu (d := .non) (o' := .ins X (lkF rs (bareF rs) ph (headsF rs))) (f_me (f_var (i := 0) (o := .me a (.ins X (lkF rs (bareF rs) ph []))) rfl)) rfl hh sa_nil (fun a => ⟨a, rs, ph, rfl, wf, rfl, rfl⟩) rfl) ?_ (fun _ _ _ z => z.elim)
    rintro d ρ' rfl
    have hle := sl_unname (K := K) (ρ := [.mt (.me a (.ins X (lkF rs (bareF rs) ph (headsF rs)))), s, s2, s3]) (i := 0) (p := ph) (o := .dct (hO (headsF rs))) (fa_fld (f := "heads") (fa_me (fa_var (o := .me a (.ins X (lkF rs (bareF rs) ph (headsF rs)))) rfl)) rfl)
    exact ⟨[.mt (.me a (looksO X rs)), s, s2, s3], hle, rfl, keepsB⟩
/-! ### what Looks tells -/
structure Few (rs : List Rule) : Prop where
  p : (pnames rs).length < 60
  k : (∃ L : List Tx, L.length < 60 ∧ ∀ k ∈ kinds rs, k ∈ L)
theorem Few.len {rs : List Rule} (f : Few rs) {l : List Tx} (nd : l.Nodup) (h : ∀ x ∈ l, x ∈ kinds rs) : l.length < 60 := by
  obtain ⟨L, hL, hk⟩ := f.k
  have := nodup_sub_len nd fun x hx => hk x (h x hx)
  omega
def R_empties (X : Addr) (ds : List Dat) (o : Out) : Prop := ∃ rs, ds = [looksD X rs] ∧ Wf rs ∧ Few rs ∧ o = .mt (.pl ((srt (bareF rs)).map .txt))
theorem h_Looks_empties (kk : KK K X) (ds : List Dat) (o : Out) (h : R_empties X ds o) : SemS K W (T_Looks_empties K W) (slots 1 ds) (PO o) := by
  obtain ⟨rs, rfl, wf, few, rfl⟩ := h
  have hI := (bare_ok rs).1
  exact ss_retNew (sn_sortDT (l := bareF rs) (sa_cons (s_fldI (s_var rfl) kk.C.cl kk.nb rfl) sa_nil) hI.nd (by have := hI.len; have := few.p; omega)) rfl
def R_firsts (X : Addr) (ds : List Dat) (o : Out) : Prop := ∃ rs p, ds = [looksD X rs, .txt p] ∧ Wf rs ∧ Few rs ∧ p ∈ pnames rs ∧ o = .mt (.pl ((srt (gH (headsF rs) p)).map .txt))
theorem heads_has {rs : List Rule} (wf : Wf rs) {p : Tx} (hp : p ∈ pnames rs) : getA (hF (headsF rs)) (kT p) = some (.dct (sD (gH (headsF rs) p))) := by
  obtain ⟨r, hr, e⟩ := mem_pnames.mp hp
  have := (heads_ok wf).1.has hr
  rw [e] at this
  rw [get_hF, this]
  rfl
theorem h_Looks_firsts (kk : KK K X) (ds : List Dat) (o : Out) (h : R_firsts X ds o) : SemS K W (T_Looks_firsts K W) (slots 2 ds) (PO o) := by
  obtain ⟨rs, p, rfl, wf, few, hp, rfl⟩ := h
  have hI := (heads_ok wf).1
  have := few.len (hI.n p) (hI.c p)
  exact ss_retNew (sn_sortDT (l := gH (headsF rs) p) (sa_cons (s_dget (es := hF (headsF rs)) (s_fldI (s_var rfl) kk.C.cl kk.nh rfl) (s_var rfl) (k := kT p) rfl (heads_has wf hp)) sa_nil) (hI.n p) (by omega)) rfl
noncomputable def begF (rs : List Rule) (row : List Tx) (ahead : Tx) : List Tx := if row.all (fun s => decide (s ∈ bareF rs)) then addS (hdOf (headsF rs) (bareF rs) row []) ahead else hdOf (headsF rs) (bareF rs) row []
def R_begins (X : Addr) (ds : List Dat) (o : Out) : Prop := ∃ rs row ah, ds = [looksD X rs, .tup (row.map .txt), .txt ah] ∧ Wf rs ∧ Few rs ∧ (∀ x ∈ row, OkT x ∧ (isKind x = true → x ∈ kinds rs)) ∧ row.length ≤ 50 ∧ o = .mt (.pl ((srt (begF rs row ah)).map .txt))
theorem h_Looks_begins {mh : List (Addr × Sp)} (kk : KK K X) (hm : (X, spO K (R_hof X)) ∈ mh) (ds : List Dat) (o : Out) (h : R_begins X ds o) : SemS K W (T_Looks_begins K mh W) (slots 5 ds) (PO o) := by
  obtain ⟨rs, row, ah, rfl, wf, few, hrow, hrl, rfl⟩ := h
  have hS : sizeLine = 16777216 := rfl
  have hI := (heads_ok wf).1
  have hkl := kinds_len wf
  have hnd : (hdOf (headsF rs) (bareF rs) row []).Nodup := hdOf_nd List.nodup_nil
  have hlen := few.len hnd (hdOf_cand hI.c (fun x hx hk => (hrow x hx).2 hk) (fun x hx => by cases hx))
  have hbeg : (begF rs row ah).Nodup ∧ (begF rs row ah).length < 64 := by
    unfold begF
    split
    · exact ⟨addS_nd hnd, by have := addS_len (hdOf (headsF rs) (bareF rs) row []) ah; omega⟩
    · exact ⟨hnd, by omega⟩
  have hbe : begF rs row ah = if row.all (fun s => decide (s ∈ bareF rs)) then addS (hdOf (headsF rs) (bareF rs) row []) ah else hdOf (headsF rs) (bareF rs) row [] := rfl
  apply ss_seq
  refine ss_asgM (o := .pd (sD (hdOf (headsF rs) (bareF rs) row []))) (sm_mu (s_var rfl) (sa_cons (s_var rfl) sa_nil) hm rfl ⟨_, bareF rs, headsF rs, row, rfl, rfl, rfl, fun x hx => (hrow x hx).1, hrl, fun p => Nat.le_trans (hI.glen p) hkl, rfl⟩) ?_
  generalize hdOf (headsF rs) (bareF rs) row [] = fd at hlen hbe ⊢
  have fin : ∀ {P : Post} {s4 : Sl} (l : List Tx), l = begF rs row ah → P.rn = (fun o' => o' = OD.pl ((srt (begF rs row ah)).map .txt)) → SemS K W (tRet (tCB uSortD (tCons (tVar 3) tNil))) [.dat (looksD X rs), .dat (.tup (row.map .txt)), .dat (.txt ah), .mt (.pd (sD l)), s4] P := fun {P s4} l hl hp => by
    subst hl
    refine ss_retNew (ds := (srt (begF rs row ah)).map .txt) (sn_peekA (fun d hd => ?_) (sn_sortDT (l := begF rs row ah) (sa_cons (s_var rfl) sa_nil) hbeg.1 hbeg.2)) (by rw [hp])
    obtain ⟨x, _, rfl⟩ := List.mem_map.mp hd
    rfl
  apply ss_seq
  refine ss_if (k := row.all fun s => decide (s ∈ bareF rs)) (st_bl (s_cb (sa_cons (s_ofN (sn_lcM (xs := row) (enc := .txt) (g := fun x => .bl (decide (x ∈ bareF rs))) (si_u (s_var rfl) rfl) (by omega) fun x hx => s_is (s_din (es := sD (bareF rs)) (s_var rfl) (s_fldI (s_var rfl) kk.C.cl kk.nb rfl) (k := kT x) rfl) (by rw [has_sD]))) sa_nil) cs_allM)) (fun hk => ?_) (fun hk => ss_next ?_)
  · refine ss_dput (i := 3) (kvs := sD fd) (k := kT ah) (d := .bl true) s_bl (f_var rfl) (s_var rfl) (fun G v rv => rv.isKey rfl) (by rw [sD_len]; omega) ?_
    rw [put_sD]
    exact fin (addS fd ah) (by rw [hbe, if_pos hk]) rfl
  · exact fin fd (by rw [hbe, if_neg (by rw [hk]; simp)]) rfl
def R_numbers (X : Addr) (ds : List Dat) (o : Out) : Prop := ∃ rs p, ds = [looksD X rs, .txt p] ∧ Wf rs ∧ o = .mt (.pl (inD (numsOf rs p rs.length)))
theorem h_Looks_numbers (kk : KK K X) (ds : List Dat) (o : Out) (h : R_numbers X ds o) : SemS K W (T_Looks_numbers K W) (slots 2 ds) (PO o) := by
  obtain ⟨rs, p, rfl, wf, rfl⟩ := h
  have e := byN_get (rs := rs) (p := p) (n := rs.length) (Nat.le_refl _)
  refine ss_retNew (ds := inD (numsOf rs p rs.length)) (sn_list (d := .lst (inD (numsOf rs p rs.length))) (sa_cons (s_is (s_dget2 (es := bF (byN rs rs.length)) (s_fldI (s_var rfl) kk.C.cl kk.np rfl) (s_var rfl) (k := kT p) rfl (s_lst sa_nil (by decide))) ?_) sa_nil) rfl) rfl
  rw [get_bF, ← e]
  unfold gN
  cases getA (byN rs rs.length) p <;> rfl
def R_parts (X : Addr) (ds : List Dat) (o : Out) : Prop := ∃ rs, ds = [looksD X rs] ∧ Wf rs ∧ o = .mt (.pl ((pnames rs).map .txt))
theorem h_Looks_parts (kk : KK K X) (ds : List Dat) (o : Out) (h : R_parts X ds o) : SemS K W (T_Looks_parts K W) (slots 1 ds) (PO o) := by
  obtain ⟨rs, rfl, wf, rfl⟩ := h
  have := sn_listD (K := K) (ρ := slots 1 [looksD X rs]) (u := tCons (tAt K "by_part" (tVar 0)) tNil) (es := bF (byN rs rs.length)) (sa_cons (s_fldI (s_var rfl) kk.C.cl kk.np rfl) sa_nil)
  rw [bF_keys, by_keys] at this
  exact ss_retNew this rfl
end

/-! ### the law's own first words -/
def fO (F : Hd) : List (Key × OD) := F.map fun p => (kT p.1, .pl (p.2.map .txt))
def fF (F : Hd) : List (Key × Dat) := F.map fun p => (kT p.1, .lst (p.2.map .txt))
theorem frz_fO : ∀ F : Hd, frzk (fO F) = fF F
  | [] => rfl
  | p :: h => by
    show (kT p.1, Dat.lst (p.2.map .txt)) :: frzk (fO h) = _
    rw [frz_fO h]
    rfl
theorem get_fO (h : Hd) (p : Tx) : getA (fO h) (kT p) = (getA h p).map fun l => .pl (l.map .txt) := getA_enc kT_inj (fun l : List Tx => OD.pl (l.map .txt)) p h
theorem get_fF (h : Hd) (p : Tx) : getA (fF h) (kT p) = (getA h p).map fun l => .lst (l.map .txt) := getA_enc kT_inj (fun l : List Tx => Dat.lst (l.map .txt)) p h
def ofA (F : Hd) (row : List Tx) (ah : Tx) : List Tx := if !decide (ah = []) && decide ([] ∈ ofR F row [[]]) then ((ofR F row [[]]).filter fun x => !decide (x = [])) ++ [ah] else ofR F row [[]]
theorem txt_scal {l : List Tx} : ∀ d ∈ l.map Dat.txt, scalD d = true := fun d hd => by
  obtain ⟨x, _, rfl⟩ := List.mem_map.mp hd
  rfl
theorem nextO_len {F : Hd} {s : Tx} {hs : List Tx} (h : (gH F s).length ≤ 20000) : (nextO F s hs).length ≤ hs.length + 20000 := by
  unfold nextO
  rw [List.length_append]
  have h1 := List.length_filter_le (fun x => !decide (x = [])) hs
  have h2 := List.length_filter_le (fun x => !decide (x ∈ hs.filter fun x => !decide (x = []))) (if isKind s then [s] else gH F s)
  have h3 : (if isKind s then [s] else gH F s).length ≤ 20000 := by
    split
    · show 1 ≤ 20000; decide
    · exact h
  omega
def R_of_row (ds : List Dat) (o : Out) : Prop := ∃ F row ah, ds = [.dct (fF F), .tup (row.map .txt), .txt ah] ∧ (∀ x ∈ row, OkT x ∧ lkind x = isKind x) ∧ row.length ≤ 50 ∧ (∀ p, (gH F p).length ≤ 20000) ∧ o = .mt (.pl ((ofA F row ah).map .txt))
set_option maxHeartbeats 2000000 in
theorem h__law_of_row {K : PySem.W.Frag} {W : WX} (ds : List Dat) (o : Out) (h : R_of_row ds o) : SemS K W (T__law_of_row K (spD K R__law_is_kind) W) (slots 7 ds) (PO o) := by
  obtain ⟨F, row, ah, rfl, hrow, hrl, hgl, rfl⟩ := h
  have hS : sizeLine = 16777216 := rfl
  apply ss_seq
  refine ss_asgN (ds := [([] : Tx)].map .txt) (sn_lst (sa_cons s_str sa_nil) (by show 1 ≤ sizeLine; decide)) ?_
  refine ss_seqJ (fun ρ => ∃ s4 s5 s6, ρ = [.dat (.dct (fF F)), .dat (.tup (row.map .txt)), .dat (.txt ah), .own ((ofR F row [[]]).map .txt), s4, s5, s6] ∧ (ofR F row [[]]).length ≤ 1100000) ?_ ?_
  · refine ss_for (ds := row.map .txt) (si_u (s_var rfl) rfl) (fun i ρ => ∃ hs s4 s5 s6, ρ = [.dat (.dct (fF F)), .dat (.tup (row.map .txt)), .dat (.txt ah), .own (hs.map .txt), s4, s5, s6] ∧ ofR F (row.drop i) hs = ofR F row [[]] ∧ hs.length ≤ 20000 * i + 1) ⟨[[]], _, _, _, rfl, rfl, by show 1 ≤ 1; decide⟩ ?_ ?_
    · rintro i d ρ1 hd ⟨hs, s4, s5, s6, rfl, he, hl⟩
      obtain ⟨s, hs1, rfl⟩ := getMap hd
      have ws := hrow s (List.mem_of_getElem? hs1)
      have hi : i < row.length := (List.getElem?_eq_some_iff.mp hs1).1
      have hdr : row.drop i = s :: row.drop (i + 1) := by
        rw [List.drop_eq_getElem_cons hi]
        congr 1
        exact (List.getElem?_eq_some_iff.mp hs1).2
      rw [hdr, ofR_cons] at he
      have hl2 : hs.length ≤ 1000001 := by
        have : 20000 * i ≤ 20000 * 50 := Nat.mul_le_mul_left _ (by omega)
        omega
      have hgs := hgl s
      have hnl := nextO_len (hs := hs) hgs
      refine ⟨_, sg_name, ?_⟩
      apply ss_seq
      refine ss_if (k := !decide ([] ∈ hs)) (st_peekA (st_test (s_op (a := .txt []) s_str (s_var rfl) os_notinTL))) (fun hk => ?_) (fun hk => ss_next ?_)
      · rw [if_neg (nd_of hk)] at he
        refine ss_brk ⟨_, _, _, by rw [← he]; rfl, by rw [← he]; omega⟩
      · have hm : [] ∈ hs := by simpa using hk
        rw [if_pos hm] at he
        apply ss_seq
        refine ss_asg (d := .lst [.txt s]) (s_lst (sa_cons (s_var rfl) sa_nil) (by show 1 ≤ sizeLine; decide)) ?_
        refine ss_seqJ (fun ρ => ρ = [.dat (.dct (fF F)), .dat (.tup (row.map .txt)), .dat (.txt ah), .own (hs.map .txt), .dat (.txt s), .dat (.lst ((if isKind s then [s] else gH F s).map .txt)), s6]) ?_ ?_
        · refine ss_if (k := !isKind s) (st_not (st_bl (s_lkind rfl ws.1 ws.2))) (fun hk => ?_) (fun hk => ss_next ?_)
          · have hk : isKind s = false := by simpa using hk
            refine ss_asg (d := .lst ((gH F s).map .txt)) (s_is (s_dget2 (es := fF F) (s_var rfl) (s_var rfl) (k := kT s) rfl (s_lst sa_nil (by decide))) ?_) ?_
            · rw [get_fF]
              unfold gH
              cases getA F s <;> rfl
            · rw [hk]; rfl
          · have hk : isKind s = true := by simpa using hk
            rw [hk]
            first | done | rfl
        · rintro ρ' rfl
          have hml : (if isKind s then [s] else gH F s).length ≤ 20000 := by
            split
            · show 1 ≤ 20000; decide
            · exact hgs
          have enx : nextO F s hs = (hs.filter fun x => !decide (x = [])) ++ (if isKind s then [s] else gH F s).filter fun x => !decide (x ∈ hs.filter fun x => !decide (x = [])) := rfl
          generalize (if isKind s then [s] else gH F s) = mo at hml enx ⊢
          have hfl := List.length_filter_le (fun x => !decide (x = [])) hs
          apply ss_seq
          refine ss_asgN (ds := (hs.filter fun x => !decide (x = [])).map .txt) (sn_peekA txt_scal (sn_lcF (xs := hs) (enc := .txt) (g := .txt) (f := fun x => !decide (x = [])) (si_u (s_var rfl) rfl) (by omega) (fun x hx => st_test (s_op (b := .txt []) (s_var rfl) s_str os_neT)) (fun x hx _ => s_var rfl))) ?_
          generalize hs.filter (fun x => !decide (x = [])) = h1 at hfl enx ⊢
          have hfl2 := List.length_filter_le (fun x => !decide (x ∈ h1)) mo
          refine ss_asgN (ds := (nextO F s hs).map .txt) ?_ ?_
          · rw [enx, List.map_append]
            refine sn_peekA (fun d hd => ?_) (sn_addL (s_var rfl) (s_ofN (sn_lcF (xs := mo) (enc := .txt) (g := .txt) (f := fun x => !decide (x ∈ h1)) (si_u (s_var rfl) rfl) (by omega) (fun x hx => st_test (s_op (s_var rfl) (s_var rfl) os_notinTL)) (fun x hx _ => s_var rfl))) (by rw [List.length_map, List.length_map]; omega))
            rcases List.mem_append.mp hd with z | z
            · exact txt_scal d z
            · exact txt_scal d z
          · exact ⟨nextO F s hs, _, _, _, rfl, he, by have : 20000 * (i + 1) = 20000 * i + 20000 := by omega
                                                      omega⟩
    · rintro ρ1 ⟨hs, s4, s5, s6, rfl, he, hl⟩
      rw [List.length_map] at hl
      rw [List.length_map, List.drop_length] at he
      have he : hs = ofR F row [[]] := he
      have : 20000 * row.length ≤ 20000 * 50 := Nat.mul_le_mul_left _ hrl
      exact ⟨_, _, _, by rw [← he], by rw [← he]; omega⟩
  · rintro ρ' ⟨s4, s5, s6, rfl, hl⟩
    have hfl := List.length_filter_le (fun x => !decide (x = [])) (ofR F row [[]])
    have eA : ofA F row ah = if !decide (ah = []) && decide ([] ∈ ofR F row [[]]) then ((ofR F row [[]]).filter fun x => !decide (x = [])) ++ [ah] else ofR F row [[]] := rfl
    generalize ofR F row [[]] = hs at hl hfl eA ⊢
    apply ss_seq
    refine ss_if (k := !decide (ah = []) && decide ([] ∈ hs)) (st_peekA (st_and (st_test (s_op (b := .txt []) (s_var rfl) s_str os_neT)) fun _ => st_test (s_op (a := .txt []) s_str (s_var rfl) os_inTL))) (fun hk => ?_) (fun hk => ss_next ?_)
    · rw [if_pos hk] at eA
      refine ss_asgN (ds := (ofA F row ah).map .txt) ?_ (ss_retOwn (i := 3) rfl rfl)
      rw [eA, List.map_append]
      refine sn_peekA (fun d hd => ?_) (sn_addL (b := [.txt ah]) (s_ofN (sn_lcF (xs := hs) (enc := .txt) (g := .txt) (f := fun x => !decide (x = [])) (si_u (s_var rfl) rfl) (by omega) (fun x hx => st_test (s_op (b := .txt []) (s_var rfl) s_str os_neT)) (fun x hx _ => s_var rfl))) (s_lst (sa_cons (s_var rfl) sa_nil) (by show 1 ≤ sizeLine; decide)) (by rw [List.length_map]; show _ + 1 ≤ _; omega))
      rcases List.mem_append.mp hd with z | z
      · exact txt_scal d z
      · exact txt_scal (l := [ah]) d z
    · rw [if_neg (by rw [hk]; simp)] at eA
      rw [eA]
      exact ss_retOwn (i := 3) rfl rfl
/-! firsts -/
def R_lfirsts (ds : List Dat) (o : Out) : Prop := ∃ rs, ds = [.lst (rs.map rlD)] ∧ Wf rs ∧ o = .mt (.dct (fO (firstsF rs)))
theorem h0_keys (l : List Rule) : keysA (h0 l) = pnames l := (h0_ok l []).k
theorem h0_get {l : List Rule} {p : Tx} (h : p ∈ pnames l) : getA (h0 l) p = some [] := by
  obtain ⟨r, hr, e⟩ := mem_pnames.mp h
  have := (h0_ok l []).has hr
  rw [e, getA_h0] at this
  exact this
theorem h0_len (l : List Rule) : (h0 l).length = (pnames l).length := List.length_map _
set_option maxHeartbeats 4000000 in
theorem h__law_firsts {K : PySem.W.Frag} {W : WX} (ds : List Dat) (o : Out) (h : R_lfirsts ds o) : SemS K W (T__law_firsts K (spO K R_of_row) W) (slots 8 ds) (PO o) := by
  obtain ⟨rs, rfl, wf, rfl⟩ := h
  have hS : sizeLine = 16777216 := rfl
  have hkl := kinds_len wf
  have hcl : ([] :: kinds rs).length ≤ 20000 := by rw [List.length_cons]; omega
  obtain ⟨n, E⟩ := firsts_ends rs
  apply ss_seq
  refine ss_asgM sm_dnewO ?_
  apply ss_seq
  refine ss_for (ds := rs.map rlD) (si_u (s_var rfl) rfl) (fun i ρ => ∃ s2, ρ = [.dat (.lst (rs.map rlD)), .mt (.dct (fO (h0 (rs.take i)))), s2, .no, .no, .no, .no, .no]) ⟨_, rfl⟩ ?_ ?_
  · rintro i d ρ1 hd ⟨s2, rfl⟩
    obtain ⟨r, hr, rfl⟩ := getMap hd
    have hpl := pnames_le (rs.take i)
    rw [List.length_take] at hpl
    have hrl := wf.l
    have hfl : (fO (h0 (rs.take i))).length < sizeLine := by unfold fO; rw [List.length_map, h0_len]; omega
    refine ⟨_, sg_name, ?_⟩
    by_cases hm : r.part ∈ pnames (rs.take i)
    · refine ss_dputR (i := 1) (kvs := fO (h0 (rs.take i))) (k := kT r.part) (o := .pl []) (sm_ofN (sn_lst sa_nil (by decide))) rfl (s_rpart rfl) (fun G v rv => rv.isKey rfl) hfl ?_ (by rw [get_fO, h0_get hm]; rfl) ⟨.dat (rlD r), ?_⟩
      · have : (fO (h0 (rs.take i))).map Prod.fst = (keysA (h0 (rs.take i))).map kT := by
          unfold fO keysA
          rw [List.map_map, List.map_map]
          rfl
        rw [this, h0_keys]
        rw [List.Nodup, List.pairwise_map]
        exact (pnames_nd (rs.take i)).imp fun {a b} hne e => hne (kT_inj _ _ e)
      · have e1 : setA (fO (h0 (rs.take i))) (kT r.part) (.pl []) = fO (h0 (rs.take i)) := by
          have := setA_enc (f := fun l : List Tx => OD.pl (l.map .txt)) (p := r.part) (l := []) (h := h0 (rs.take i)) (by rw [h0_keys]; exact pnames_nd _) (by rw [h0_get hm]; rfl)
          rw [putA_same (by rw [h0_keys]; exact pnames_nd _) (h0_get hm)] at this
          exact this
        rw [e1, take_next hr]
        have : h0 (rs.take i ++ [r]) = h0 (rs.take i) := by unfold h0; rw [pnames_snoc, if_pos hm]
        rw [this]
        rfl
    · have hn : getA (h0 (rs.take i)) r.part = none := getA_none (by rw [h0_keys]; exact hm)
      refine ss_dputM (td := tVar 1) (i := 1) (kvs := fO (h0 (rs.take i))) (k := kT r.part) (o := .pl []) (sm_ofN (sn_lst sa_nil (by decide))) rfl (s_rpart rfl) (fun G v rv => rv.isKey rfl) hfl (by rw [get_fO, hn]; rfl) ⟨.dat (rlD r), ?_⟩
      have : fO (h0 (rs.take i ++ [r])) = fO (h0 (rs.take i)) ++ [(kT r.part, .pl [])] := by
        unfold h0
        rw [pnames_snoc, if_neg hm, List.map_append]
        unfold fO
        rw [List.map_append]
        rfl
      rw [take_next hr, this]
      rfl
  · rintro ρ1 ⟨s2, rfl⟩
    rw [List.length_map, List.take_length]
    apply ss_seq
    refine ss_asg s_bl ?_
    apply ss_seq
    refine ss_whileE (fun (s : Hst) ρ => ∃ s4 s5 s6 s7, ρ = [.dat (.lst (rs.map rlD)), .mt (.dct (fO s.1)), s2, .dat (.bl s.2), s4, s5, s6, s7]) (fun s => HI rs ([] :: kinds rs) s.1) E (h0_ok rs _) ⟨_, _, _, _, rfl⟩ ?_ ?_
    · rintro ⟨hs, ch⟩ ρ1 hI ⟨s4, s5, s6, s7, rfl⟩
      refine ⟨st_bl (s_var rfl), fun hc => ⟨HI.fold gFst_cand hI fun r hr => hr, ?_⟩⟩
      have hI : HI rs ([] :: kinds rs) hs := hI
      apply ss_seq
      refine ss_asg s_bl ?_
      refine ss_for (ds := rs.map rlD) (si_u (s_var rfl) rfl) (fun i ρ => ∃ s4 s5 s6 s7, ρ = [.dat (.lst (rs.map rlD)), .mt (.dct (fO ((rs.take i).foldl (stG gFst) hs))), s2, .dat (.bl (decide ((rs.take i).foldl (stG gFst) hs ≠ hs))), s4, s5, s6, s7]) ⟨s4, s5, s6, s7, by simp⟩ ?_ ?_
      · rintro i d ρ1 hd ⟨s4, s5, s6, s7, rfl⟩
        obtain ⟨r, hr, rfl⟩ := getMap hd
        have hrm : r ∈ rs := List.mem_of_getElem? hr
        have wr := wf.r r hrm
        have i1 : HI rs ([] :: kinds rs) ((rs.take i).foldl (stG gFst) hs) := HI.fold gFst_cand hI fun x hx => List.mem_of_mem_take hx
        have hnext := stG_take (g := gFst) (h := hs) hr
        have hlt := gfold_lt gFst_cand (l := rs.take i) hI fun x hx => List.mem_of_mem_take hx
        have hcand := gFst_cand _ r i1 hrm
        generalize (rs.take i).foldl (stG gFst) hs = h at i1 hnext hlt hcand ⊢
        have hl := wr.l
        have hpart := i1.has hrm
        have hps : (getA h r.part).isSome = true := by rw [hpart]; rfl
        have el : ofA h r.row [] = gFst h r := rfl
        generalize hle : gFst h r = l at *
        have cur : ∀ j, HI rs ([] :: kinds rs) (putA h r.part ((l.take j).foldl addS (gH h r.part))) := fun j => i1.step (g := fun _ _ => l.take j) hrm fun x hx => hcand x (List.mem_of_mem_take hx)
        have curlt : ∀ j, putA h r.part ((l.take j).foldl addS (gH h r.part)) = hs ∨ missH ([] :: kinds rs) (putA h r.part ((l.take j).foldl addS (gH h r.part))) < missH ([] :: kinds rs) hs := fun j => by
          have := stG_lt (g := fun _ _ => l.take j) i1 hrm fun x hx => hcand x (List.mem_of_mem_take hx)
          have this : putA h r.part ((l.take j).foldl addS (gH h r.part)) = h ∨ missH ([] :: kinds rs) (putA h r.part ((l.take j).foldl addS (gH h r.part))) < missH ([] :: kinds rs) h := this
          rcases this with e | e
          · rw [e]; exact hlt
          · rcases hlt with y | y
            · rw [y] at e ⊢; exact .inr e
            · exact .inr (Nat.lt_trans e y)
        refine ⟨_, sg_rule, ?_⟩
        have it : SemI K (iU K (tCallSD (spO K R_of_row) [] (WE W) (tCons (tVar 1) (tCons (tVar 5) (tCons (tC (.str (Str.ofString ""))) tNil))))) [.dat (.lst (rs.map rlD)), .mt (.dct (fO h)), s2, .dat (.bl (decide (h ≠ hs))), .dat (.txt r.part), .dat (.tup (r.row.map .txt)), .dat (.txt r.way), s7] (l.map .txt) := by
          refine si_u (d := .lst (l.map .txt)) (s_ofN (sn_peekA txt_scal (sn_callO (ds := [.dct (frzk (fO h)), .tup (r.row.map .txt), .txt []]) (sa_cons (s_var rfl) (sa_cons (s_var rfl) (sa_cons s_str sa_nil))) ?_))) rfl
          rw [frz_fO]
          exact ⟨h, r.row, [], rfl, wr.s, hl, fun p => Nat.le_trans (i1.glen p) hcl, by rw [el]⟩
        refine ss_for (ds := l.map .txt) it (fun j ρ => ∃ s7, ρ = [.dat (.lst (rs.map rlD)), .mt (.dct (fO (putA h r.part ((l.take j).foldl addS (gH h r.part))))), s2, .dat (.bl (decide (putA h r.part ((l.take j).foldl addS (gH h r.part)) ≠ hs))), .dat (.txt r.part), .dat (.tup (r.row.map .txt)), .dat (.txt r.way), s7]) ⟨s7, by
            have : putA h r.part ((l.take 0).foldl addS (gH h r.part)) = h := putA_same i1.nd hpart
            rw [this]; rfl⟩ ?_ ?_
        · rintro j d ρ1 hd ⟨s7, rfl⟩
          obtain ⟨k, hk, rfl⟩ := getMap hd
          have ic := cur j
          have lc := curlt j
          have hkc : k ∈ [] :: kinds rs := hcand k (List.mem_of_getElem? hk)
          have enx : (l.take (j + 1)).foldl addS (gH h r.part) = addS ((l.take j).foldl addS (gH h r.part)) k := by rw [take_next hk, List.foldl_append]; rfl
          rw [enx]
          have hX : gH (putA h r.part ((l.take j).foldl addS (gH h r.part))) r.part = (l.take j).foldl addS (gH h r.part) := by rw [gH_put, if_pos rfl]
          have hg1 : getA (putA h r.part ((l.take j).foldl addS (gH h r.part))) r.part = some ((l.take j).foldl addS (gH h r.part)) := by rw [getA_putA, if_pos rfl]
          have epp : ∀ m, putA (putA h r.part ((l.take j).foldl addS (gH h r.part))) r.part m = putA h r.part m := fun m => putA_putA hps
          have hlenX : ((l.take j).foldl addS (gH h r.part)).length ≤ 20000 := by rw [← hX]; exact Nat.le_trans (ic.glen _) hcl
          generalize (l.take j).foldl addS (gH h r.part) = Xj at ic lc hX hg1 epp hlenX ⊢
          generalize hcu : putA h r.part Xj = cu at ic lc hX hg1 epp ⊢
          refine ⟨_, sg_name, ?_⟩
          refine ss_if (k := !decide (k ∈ Xj)) (st_peekA (st_test (s_op (s_var rfl) (s_dget (es := frzk (fO cu)) (s_var rfl) (s_var rfl) (k := kT r.part) rfl (by rw [frz_fO, get_fF, hg1]; rfl)) os_notinTL))) (fun hn => ?_) (fun hn => ss_next ⟨.dat (.txt k), ?_⟩)
          · have hkn : ¬ k ∈ Xj := nd_of hn
            have ea : addS Xj k = Xj ++ [k] := by unfold addS; rw [if_neg hkn]
            have eset : setA (fO cu) (kT r.part) (.pl (Xj.map .txt ++ [.txt k])) = fO (putA h r.part (addS Xj k)) := by
              have e5 : Xj.map Dat.txt ++ [.txt k] = (addS Xj k).map .txt := by rw [ea, List.map_append]; rfl
              rw [← epp, e5]
              exact setA_enc (f := fun l : List Tx => OD.pl (l.map .txt)) ic.nd (by rw [hg1]; rfl)
            apply ss_seq
            refine ss_appF (i := 1) (ds := Xj.map .txt) (f_key (k := kT r.part) (f_var (o := .dct (fO cu)) rfl) (s_var rfl) (fun G v rv => rv.isKey rfl) (by rw [get_fO, hg1]; rfl)) (s_var rfl) (by rw [List.length_map]; omega) ?_
            refine ss_asg s_bl ⟨.dat (.txt k), ?_⟩
            have hlt2 : missH ([] :: kinds rs) (putA h r.part (addS Xj k)) < missH ([] :: kinds rs) cu := by
              have := stG_lt (g := fun _ _ => [k]) ic hrm fun x hx => by rw [List.mem_singleton.mp hx]; exact hkc
              have e9 : stG (fun _ _ => [k]) cu r = putA h r.part (addS Xj k) := by
                unfold stG
                rw [hX, ← epp]
                rfl
              rw [e9] at this
              rcases this with e | e
              · have e8 := congrArg (fun z => gH z r.part) e
                have e8 : gH (putA h r.part (addS Xj k)) r.part = gH cu r.part := e8
                rw [gH_put, if_pos rfl, hX, ea] at e8
                have := congrArg List.length e8
                rw [List.length_append] at this
                simp at this
              · exact e
            have hne : putA h r.part (addS Xj k) ≠ hs := fun e => by
              rw [e] at hlt2
              rcases lc with q | q
              · rw [q] at hlt2; exact Nat.lt_irrefl _ hlt2
              · exact Nat.lt_irrefl _ (Nat.lt_trans hlt2 q)
            rw [decide_eq_true hne]
            show [_, Sl.mt (.dct (setA (fO cu) (kT r.part) (.pl (Xj.map .txt ++ [.txt k])))), _, _, _, _, _, _] = _
            rw [eset]
          · have hkn : k ∈ Xj := by simpa using hn
            have ea : addS Xj k = Xj := by unfold addS; rw [if_pos hkn]
            rw [ea, hcu]
            first | done | rfl
        · rintro ρ1 ⟨s7, rfl⟩
          rw [List.length_map, List.take_length]
          refine ⟨.dat (.txt r.part), .dat (.tup (r.row.map .txt)), .dat (.txt r.way), s7, ?_⟩
          rw [hnext]
          unfold stG
          first | rfl | rw [hle]
      · rintro ρ1 ⟨s4, s5, s6, s7, rfl⟩
        rw [List.length_map, List.take_length]
        exact ⟨s4, s5, s6, s7, rfl⟩
    · rintro ρ1 hI _ ⟨s4, s5, s6, s7, rfl⟩
      exact ss_retOwn (i := 1) rfl rfl

/-! ### the law -/
theorem ss_appNew {K : PySem.W.Frag} {W : WX} {ρ : List Sl} {P : Post} {te tx : TE} {ds : List Dat} {d : Dat} (h : SemN K te ρ ds) (hx : Sem K tx ρ d) (hl : ds.length < sizeLine) (p : P.nx ρ) : SemS K W (tDrop (tBM K "list" rAppend te (tCons tx tNil))) ρ P := fun G0 B0 σ G H D S n r b c x =>
  h _ _ _ _ _ S _ fun q vs G1 H1 g1 hq hg h2 rs => by
    refine ⟨.inl ⟨rfl, _, .inl (.inl h2)⟩, hx _ _ _ _ _ (S.grow g1) _ fun y G2 H2 g2 ry => ?_⟩
    have gq : G2 q = none := g2.m q hg (by rw [h2]; simp)
    have g12 := g1.trans g2
    refine ⟨q, vs, y, rfl, rfl, g2.h _ _ h2, by rw [rs.length]; exact hl, n _ σ G2 _ p (S.grow ⟨g12.g, g2.s.mut gq, g12.h.mut hq, g12.m⟩)⟩
theorem begs_iff {rs : List Rule} (wf : Wf rs) {row : List Tx} {ah x : Tx} : x ∈ begF rs row ah ↔ RowF rs row x ∨ ((∀ s ∈ row, Nul rs s) ∧ x = ah) := by
  unfold begF
  have ha : (row.all fun s => decide (s ∈ bareF rs)) = true ↔ ∀ s ∈ row, Nul rs s := by
    rw [List.all_eq_true]
    exact ⟨fun h s hs => mem_bare.mp (of_decide_eq_true (h s hs)), fun h s hs => decide_eq_true (mem_bare.mpr (h s hs))⟩
  split
  · rename_i h
    rw [mem_addS, hdOf_iff wf]
    exact ⟨fun q => q.elim .inl fun e => .inr ⟨ha.mp h, e⟩, fun q => q.elim .inl fun e => .inr e.2⟩
  · rename_i h
    rw [hdOf_iff wf]
    exact ⟨.inl, fun q => q.elim id fun e => absurd (ha.mpr e.1) h⟩
theorem ofA_iff {rs : List Rule} (wf : Wf rs) {row : List Tx} {ah x : Tx} : x ∈ ofA (firstsF rs) row ah ↔ RowF rs row x ∨ ((∀ s ∈ row, Nul rs s) ∧ x = ah) := by
  unfold ofA
  have hN : [] ∈ ofR (firstsF rs) row [[]] ↔ ∀ s ∈ row, Nul rs s := by
    rw [ofR_iff wf]
    exact ⟨fun h => h.elim (·.2) fun q => absurd q.isK.1 (by decide +kernel), fun h => .inl ⟨rfl, h⟩⟩
  by_cases hc : (!decide (ah = []) && decide ([] ∈ ofR (firstsF rs) row [[]])) = true
  · rw [if_pos hc]
    rw [Bool.and_eq_true] at hc
    have h1 : ¬ ah = [] := nd_of hc.1
    have h2 := hN.mp (of_decide_eq_true hc.2)
    rw [List.mem_append, List.mem_filter, ofR_iff wf, List.mem_singleton]
    constructor
    · rintro (⟨q, hx⟩ | rfl)
      · have hx : ¬ x = [] := nd_of hx
        rcases q with q | q
        · exact absurd q.1 hx
        · exact .inl q
      · exact .inr ⟨h2, rfl⟩
    · rintro (q | ⟨_, rfl⟩)
      · exact .inl ⟨.inr q, by simpa using kind_ne q.isK.1⟩
      · exact .inr rfl
  · rw [if_neg hc, ofR_iff wf]
    constructor
    · rintro (⟨rfl, q⟩ | q)
      · right
        refine ⟨q, ?_⟩
        by_cases e : ah = []
        · exact e.symm
        · exact absurd (by rw [decide_eq_false e, decide_eq_true (hN.mpr q)]; rfl) hc
      · exact .inl q
    · rintro (q | ⟨q, rfl⟩)
      · exact .inr q
      · by_cases e : x = []
        · exact .inl ⟨e, q⟩
        · exact absurd (by rw [decide_eq_false e, decide_eq_true (hN.mpr q)]; rfl) hc
theorem Gs.sym {lo hi : Nat} {rs : List Rule} (h : Gs lo hi rs) : ∀ r ∈ rs, (r.part = [] ∨ r.part ∈ partsK) ∧ ∀ x ∈ r.row, x ∈ symK := fun r hr => by
  obtain ⟨tl, rfl, ht⟩ := h.t
  rcases List.mem_cons.mp hr with rfl | z
  · exact ⟨.inl rfl, fun x hx => by rw [List.mem_singleton.mp hx]; decide +kernel⟩
  · exact ⟨.inr (ht r z).p, (ht r z).s⟩
theorem Gs.few {lo hi : Nat} {rs : List Rule} (h : Gs lo hi rs) : Few rs := by
  refine ⟨?_, symK, by decide, fun k hk => ?_⟩
  · have := nodup_sub_len (l := pnames rs) (m := [] :: partsK) (pnames_nd rs) fun x hx => by
      obtain ⟨r, hr, rfl⟩ := mem_pnames.mp hx
      rcases (h.sym r hr).1 with z | z
      · rw [z]; exact .head _
      · exact .tail _ z
    have h7 : ([] :: partsK).length = 7 := rfl
    omega
  · obtain ⟨_, r, hr, hm⟩ := mem_kinds.mp hk
    exact (h.sym r hr).2 k hm
theorem of_few {F : Hd} {rs : List Rule} (few : Few rs) (i : HI rs ([] :: kinds rs) F) {row : List Tx} (hr : ∀ x ∈ row, isKind x = true → x ∈ kinds rs) {ah : Tx} : (ofA F row ah).length ≤ 100 := by
  have h1 : (ofR F row [[]]).Nodup := ofR_nd i.n (List.nodup_cons.mpr ⟨by simp, List.nodup_nil⟩)
  have h2 := ofR_cand (row := row) i.c (fun x hx hk => .tail _ (hr x hx hk)) (hs := [[]]) (fun x hx => by rw [List.mem_singleton.mp hx]; exact .head _)
  obtain ⟨L, hL, hk⟩ := few.k
  have h3 := nodup_sub_len (m := [] :: L) h1 fun x hx => by
    rcases List.mem_cons.mp (h2 x hx) with z | z
    · rw [z]; exact .head _
    · exact .tail _ (hk x z)
  rw [List.length_cons] at h3
  unfold ofA
  split
  · rw [List.length_append]
    have := List.length_filter_le (fun x => !decide (x = [])) (ofR F row [[]])
    simp only [List.length_cons, List.length_nil]
    omega
  · omega
def tNob : Tx := (Str.ofString "nobody").cps.toList
theorem no_body {lo hi : Nat} {rs : List Rule} (h : Gs lo hi rs) : numsOf rs tNob rs.length = [] := by
  unfold numsOf
  apply List.filter_eq_nil_iff.mpr
  intro k hk
  have hk := List.mem_range.mp hk
  have e : (rs.map Rule.part)[k]? = some rs[k].part := by rw [List.getElem?_map, List.getElem?_eq_getElem hk]; rfl
  rw [e]
  have : rs[k].part ≠ tNob := fun q => by
    rcases (h.sym rs[k] (List.getElem_mem hk)).1 with z | z
    · rw [z] at q; exact absurd q (by decide +kernel)
    · rw [q] at z; exact absurd z (by decide +kernel)
  simpa using this
def aheads : List Tx := [[], (Str.ofString "'x").cps.toList, (Str.ofString "QUOTE").cps.toList]
def R_right (ds : List Dat) (d : Dat) : Prop := ∃ rs ns k, ds = [.lst (rs.map rlD), .scr ns, .int k] ∧ Gs 2 17 rs ∧ ns.length ≤ 63 ∧ 0 ≤ k ∧ k ≤ 100000 ∧ d = .bl true
theorem good_ints (l : List Nat) : goodD 1 (.lst (inD l)) := fun d hd => by
  obtain ⟨x, _, rfl⟩ := List.mem_map.mp hd
  exact True.intro
theorem good_lst {l : List Tx} (h : ∀ x ∈ l, Okc x) : goodD 1 (.lst (l.map .txt)) := fun d hd => by
  obtain ⟨x, hx, rfl⟩ := List.mem_map.mp hd
  exact h x hx
set_option maxHeartbeats 8000000 in
theorem h__law_right {K : PySem.W.Frag} {W : WX} {X : Addr} (kk : KK K X) (ds : List Dat) (d : Dat) (h : R_right ds d) :
    SemS K W (T__law_right K (spO K R_lfirsts) (spD K R__law_cell) (spO K R_of_row) X [(X, spO K (R_parts X))] [(X, spO K (R_empties X))] [(X, spO K (R_firsts X))] [(X, spO K (R_numbers X))] [(X, spO K (R_begins X))] (spL K (R_Looks X))) (slots 18 ds) (PF d) := by
  obtain ⟨rs, ns, k, rfl, hg, hn, k0, k1, rfl⟩ := h
  have hS : sizeLine = 16777216 := rfl
  have wf := hg.wf (by decide)
  have few := hg.few
  obtain ⟨pn1, pn2⟩ := wf_pn wf
  have hrl := wf.l
  obtain ⟨hHI, hHm⟩ := heads_ok wf
  obtain ⟨fHI, fN, fK⟩ := firsts_ok wf
  obtain ⟨bI, bN⟩ := bare_ok rs
  have kOk : ∀ x ∈ kinds rs, Okc x := fun x hx => by
    obtain ⟨_, r, hr, hm⟩ := mem_kinds.mp hx
    exact ((wf.r r hr).s x hm).1.c
  have aIn : tAa ∈ pnames rs := by
    obtain ⟨r, hr, e⟩ := hg.a hg.l
    exact mem_pnames.mpr ⟨r, hr, e⟩
  apply ss_seq
  refine ss_asgN (sn_list (sa_cons (s_var rfl) sa_nil) rfl) ?_
  apply ss_seq
  refine ss_asgE (S := fun d ρ' => d = looksD X rs ∧ ρ' = [.dat (.lst (rs.map rlD)), .dat (.scr ns), .dat (.int k), .own (rs.map rlD), .no, .no, .no, .no, .no, .no, .no, .no, .no, .no, .no, .no, .no, .no]) (X := noX) (se_mkL (i := 3) (oi := .pl (rs.map rlD)) (o := looksO X rs) rfl rfl (fun x a => ⟨x, _, rs, rfl, .inr ⟨a, rfl⟩, wf, rfl, rfl⟩) ⟨frz_looks X rs, rfl⟩) (fun d ρ' ⟨e1, e2⟩ => ⟨[.dat (.lst (rs.map rlD)), .dat (.scr ns), .dat (.int k), .own (rs.map rlD), .dat (looksD X rs), .no, .no, .no, .no, .no, .no, .no, .no, .no, .no, .no, .no, .no], by subst e1 e2; exact sg_name, ?_⟩) (fun _ _ _ z => z.elim)
  apply ss_seq
  refine ss_clear (i := 3) (f_var rfl) ?_
  apply ss_seq
  refine ss_asg (d := .dct (fF (firstsF rs))) (s_is (s_ofM (o := .dct (fO (firstsF rs))) (sm_callO0 (sa_cons (s_var rfl) sa_nil) ⟨rs, rfl, wf, rfl⟩)) (by show Dat.dct (frzk (fO (firstsF rs))) = _; rw [frz_fO])) ?_
  apply ss_seq
  refine ss_asgN (sn_lst sa_nil (by show 0 ≤ sizeLine; decide)) ?_
  apply ss_seq
  refine ss_for (ds := rs.map rlD) (si_u (s_var rfl) rfl) (fun i ρ => ∃ s7, ρ = [.dat (.lst (rs.map rlD)), .dat (.scr ns), .dat (.int k), .own [], .dat (looksD X rs), .dat (.dct (fF (firstsF rs))), .own ((pnames (rs.take i)).map .txt), s7, .no, .no, .no, .no, .no, .no, .no, .no, .no, .no]) ⟨_, rfl⟩ ?_ ?_
  · rintro i d ρ1 hd ⟨s7, rfl⟩
    obtain ⟨r, hr, rfl⟩ := getMap hd
    have hi : i < rs.length := (List.getElem?_eq_some_iff.mp hr).1
    refine ⟨_, sg_name, ?_⟩
    refine ss_if (k := !decide (r.part ∈ pnames (rs.take i))) (st_peekA (st_test (s_op (s_rpart rfl) (s_var rfl) os_notinTL))) (fun hk => ?_) (fun hk => ss_next ?_)
    · refine ss_app (i := 6) (ds := (pnames (rs.take i)).map .txt) rfl (s_rpart rfl) (by rw [List.length_map]; have h1 := pnames_le (rs.take i); rw [List.length_take] at h1; omega) ⟨.dat (rlD r), ?_⟩
      rw [take_next hr, pnames_snoc, if_neg (nd_of hk), List.map_append]
      rfl
    · have hm : r.part ∈ pnames (rs.take i) := by simpa using hk
      exact ⟨.dat (rlD r), by rw [take_next hr, pnames_snoc, if_pos hm]; rfl⟩
  · rintro ρ1 ⟨s7, rfl⟩
    rw [List.length_map, List.take_length]
    refine ss_freeze 6 (ds := (pnames rs).map .txt) rfl ?_
    have fget : ∀ {p : Tx}, p ∈ pnames rs → getA (fF (firstsF rs)) (kT p) = some (.lst ((gH (firstsF rs) p).map .txt)) := fun {p} hp => by
      obtain ⟨r, hr, e⟩ := mem_pnames.mp hp
      have := fHI.has hr
      rw [e] at this
      rw [get_fF, this]
      rfl
    have ebare : srt ((pnames rs).filter fun p => decide ([] ∈ gH (firstsF rs) p)) = srt (bareF rs) := by
      refine srt_eq (List.Pairwise.filter _ (pnames_nd rs)) bI.nd fun x => ?_
      rw [List.mem_filter, decide_eq_true_eq, fN, mem_bare]
      exact ⟨fun q => q.2, fun q => ⟨bI.sub x (mem_bare.mpr q), q⟩⟩
    apply ss_seq
    refine ss_asg (d := .lst ((srt (bareF rs)).map .txt)) (s_is (s_ofN (sn_sortedT (l := (pnames rs).filter fun p => decide ([] ∈ gH (firstsF rs) p)) (sa_cons (s_ofN (sn_lcF (xs := pnames rs) (enc := .txt) (g := .txt) (f := fun p => decide ([] ∈ gH (firstsF rs) p)) (si_u (s_var rfl) rfl) (by omega) (fun p hp => st_test (s_op (a := .txt []) s_str (s_dget (es := fF (firstsF rs)) (s_var rfl) (s_var rfl) (k := kT p) rfl (fget hp)) os_inTL)) (fun p hp _ => s_var rfl))) sa_nil))) (by rw [ebare])) ?_
    have gpn : goodD 1 (.lst ((pnames rs).map .txt)) := good_lst fun x hx => (pn1 x hx).c
    have gba : goodD 1 (.lst ((srt (bareF rs)).map .txt)) := good_lst fun x hx => (pn1 x (bI.sub x ((srt_perm _).mem_iff.mp hx))).c
    have ghd : ∀ p, goodD 1 (.lst ((srt (gH (headsF rs) p)).map .txt)) := fun p => good_lst fun x hx => kOk x (hHI.c p x ((srt_perm _).mem_iff.mp hx))
    have q_parts : R_parts X [looksD X rs] (.mt (.pl ((pnames rs).map .txt))) := ⟨rs, rfl, wf, rfl⟩
    have q_empt : R_empties X [looksD X rs] (.mt (.pl ((srt (bareF rs)).map .txt))) := ⟨rs, rfl, wf, few, rfl⟩
    have q_first : ∀ {p}, p ∈ pnames rs → R_firsts X [looksD X rs, .txt p] (.mt (.pl ((srt (gH (headsF rs) p)).map .txt))) := fun {p} hp => ⟨rs, p, rfl, wf, few, hp, rfl⟩
    have q_num : ∀ p, R_numbers X [looksD X rs, .txt p] (.mt (.pl (inD (numsOf rs p rs.length)))) := fun p => ⟨rs, p, rfl, wf, rfl⟩
    have eheads : ∀ p, srt ((gH (firstsF rs) p).filter fun x => !decide (x = [])) = srt (gH (headsF rs) p) := fun p => by
      refine srt_eq (List.Pairwise.filter _ (fHI.n p)) (hHI.n p) fun x => ?_
      rw [List.mem_filter, hHm]
      constructor
      · rintro ⟨q1, q2⟩
        exact (fK p x (nd_of q2)).mp q1
      · intro q
        have hx := kind_ne q.isK.1
        exact ⟨(fK p x hx).mpr q, by simpa using hx⟩
    have nr : numsOf rs tNob rs.length = [] := no_body hg
    have hflen : ∀ p, (gH (firstsF rs) p).length ≤ 20000 := fun p => by
      have := fHI.glen p
      have := kinds_len wf
      rw [List.length_cons] at *
      omega
    have hnl : ∀ p, (numsOf rs p rs.length).length ≤ 200 := fun p => Nat.le_trans nums_len hrl
    have hbl : (srt (bareF rs)).length ≤ 200 := by rw [(srt_perm _).length_eq]; have := bI.len; omega
    have hhl : ∀ p, (srt (gH (headsF rs) p)).length ≤ 10000 := fun p => by rw [(srt_perm _).length_eq]; exact Nat.le_trans (hHI.glen p) (kinds_len wf)
    have srtF : ∀ {ρ : List Sl} {p : Tx} {tp : TE}, ρ[5]? = some (.dat (.dct (fF (firstsF rs)))) → ρ.length = 18 → p ∈ pnames rs → Sem K tp ρ (.txt p) → Sem K (tCB (uSorted K) (tCons (tLc (iU K (tDGet (tVar 5) tp)) (gName 16) (tTest (tOp (uNe K) (tVar 16) (tC (.str (Str.ofString ""))))) (tVar 16) [16]) tNil)) ρ (.lst ((srt (gH (headsF rs) p)).map .txt)) := fun {ρ p tp} h5 hl hp ht =>
      s_is (s_ofN (sn_sortedT (l := (gH (firstsF rs) p).filter fun x => !decide (x = [])) (sa_cons (s_ofN (sn_lcF (xs := gH (firstsF rs) p) (enc := .txt) (g := .txt) (f := fun x => !decide (x = [])) (si_u (s_dget (es := fF (firstsF rs)) (s_var h5) ht (k := kT p) rfl (fget hp)) rfl) (by have := hflen p; omega) (fun x hx => st_test (s_op (b := .txt []) (s_var (List.getElem?_set_self (by rw [hl]; decide))) s_str os_neT)) (fun x hx _ => s_var (List.getElem?_set_self (by rw [hl]; decide))))) sa_nil))) (by rw [eheads])
    apply ss_seq
    refine ss_if (k := false) (st_is (st_or (k := !true) (l := !true) (st_test (s_op (s_ofM (o := .pl ((pnames rs).map .txt)) (sm_mu (s_var rfl) sa_nil (.head _) rfl q_parts)) (s_var rfl) (os_neK (k := true) gpn gpn (by decide) (by decide) ⟨fun _ => rfl, fun _ => rfl⟩))) fun _ => st_test (s_op (s_ofM (o := .pl ((srt (bareF rs)).map .txt)) (sm_mu (s_var rfl) sa_nil (.head _) rfl q_empt)) (s_var rfl) (os_neK (k := true) gba gba (by decide) (by decide) ⟨fun _ => rfl, fun _ => rfl⟩))) rfl) (fun z => by cases z) (fun _ => ss_next ?_)
    apply ss_seq
    refine ss_for (ds := (pnames rs).map .txt) (si_u (s_var rfl) rfl) (fun i ρ => ∃ s9 s10, ρ = [.dat (.lst (rs.map rlD)), .dat (.scr ns), .dat (.int k), .own [], .dat (looksD X rs), .dat (.dct (fF (firstsF rs))), .dat (.lst ((pnames rs).map .txt)), s7, .dat (.lst ((srt (bareF rs)).map .txt)), s9, s10, .no, .no, .no, .no, .no, .no, .no]) ⟨_, _, rfl⟩ ?_ ?_
    · rintro i d ρ1 hd ⟨s9, s10, rfl⟩
      obtain ⟨p, hp0, rfl⟩ := getMap hd
      have hp : p ∈ pnames rs := List.mem_of_getElem? hp0
      refine ⟨_, sg_name, ?_⟩
      apply ss_seq
      refine ss_if (k := false) (st_is (st_test (s_op (s_ofM (o := .pl ((srt (gH (headsF rs) p)).map .txt)) (sm_mu (s_var rfl) (sa_cons (s_var rfl) sa_nil) (.head _) rfl (q_first hp))) (srtF rfl rfl hp (s_var rfl)) (os_neK (k := true) (ghd p) (ghd p) (by decide) (by decide) ⟨fun _ => rfl, fun _ => rfl⟩))) rfl) (fun z => by cases z) (fun _ => ss_next ?_)
      apply ss_seq
      refine ss_asg (d := .lst (inD (numsOf rs p rs.length))) (s_ofN (sn_lcF (xs := List.range rs.length) (enc := fun k : Nat => .int ((k : Nat) : Int)) (g := fun k : Nat => .int ((k : Nat) : Int)) (f := fun k => decide ((rs.map Rule.part)[k]? = some p)) ?_ (by rw [List.length_range]; omega) (fun j hj => ?_) (fun j hj _ => s_var rfl))) ?_
      · have hc := cs_lenL (K := K) (cs := rs.map rlD)
        rw [List.length_map] at hc
        exact si_range1 (n := rs.length) (sa_cons (s_cb (sa_cons (s_var rfl) sa_nil) hc) sa_nil) (by omega)
      · have hj := List.mem_range.mp hj
        have e : rs[j]? = some rs[j] := List.getElem?_eq_getElem hj
        refine st_is (st_test (s_op (a := .txt rs[j].part) (s_op (a := rlD rs[j]) (s_op (s_var rfl) (s_var rfl) (os_ixL (atI_nat (by rw [List.getElem?_map, e]; rfl)))) s_int (os_ixU rfl)) (s_var rfl) os_eqT)) ?_
        rw [List.getElem?_map, e]
        show decide (rs[j].part = p) = decide (some rs[j].part = some p)
        simp
      have nmq : ∀ {ρ : List Sl}, ρ[4]? = some (.dat (looksD X rs)) → ρ[9]? = some (.dat (.txt p)) → SemM K (tMu [(X, spO K (R_numbers X))] "numbers" (fun _ => E0) (tVar 4) (tCons (tVar 9) tNil)) ρ (.pl (inD (numsOf rs p rs.length))) := fun h4 h9 => sm_mu (s_var h4) (sa_cons (s_var h9) sa_nil) (.head _) rfl (q_num p)
      apply ss_seq
      refine ss_if (k := false) (st_is (st_test (s_op (s_ofM (nmq rfl rfl)) (s_var rfl) (os_neK (k := true) (good_ints _) (good_ints _) (by decide) (by decide) ⟨fun _ => rfl, fun _ => rfl⟩))) rfl) (fun z => by cases z) (fun _ => ss_next ?_)
      apply ss_seq
      refine ss_appNew (sn_ofM (nmq rfl rfl)) s_int (by unfold inD; rw [List.length_map]; have := hnl p; omega) ?_
      refine ss_if (k := false) (st_is (st_test (s_op (s_ofM (nmq rfl rfl)) (s_var rfl) (os_neK (k := true) (good_ints _) (good_ints _) (by decide) (by decide) ⟨fun _ => rfl, fun _ => rfl⟩))) rfl) (fun z => by cases z) (fun _ => ss_next ?_)
      exact ⟨_, _, rfl⟩
    · rintro ρ1 ⟨s9, s10, rfl⟩
      apply ss_seq
      refine ss_for (ds := (List.range 4).map fun j : Nat => .int ((j : Nat) : Int)) (si_range1 (n := 4) (sa_cons s_int sa_nil) (by decide)) (fun i ρ => ∃ s11 s12 s13 s14 s15, ρ = [.dat (.lst (rs.map rlD)), .dat (.scr ns), .dat (.int k), .own [], .dat (looksD X rs), .dat (.dct (fF (firstsF rs))), .dat (.lst ((pnames rs).map .txt)), s7, .dat (.lst ((srt (bareF rs)).map .txt)), s9, s10, s11, s12, s13, s14, s15, .no, .no]) ⟨_, _, _, _, _, rfl⟩ ?_ ?_
      · rintro j d ρ1 hd ⟨s11, s12, s13, s14, s15, rfl⟩
        obtain ⟨rfl, hj⟩ := getElem_range hd
        refine ⟨_, sg_name, ?_⟩
        apply ss_seq
        refine ss_asg (d := .int (cellF ns (k + (j : Int)))) (s_call (sa_cons (s_var rfl) (sa_cons (s_op (s_var rfl) (s_var rfl) os_addI) sa_nil)) (r__law_cell hn (by omega) (by omega))) ?_
        have c0 := cellF_lo ns (k + (j : Int))
        generalize cellF ns (k + (j : Int)) = mo at c0 ⊢
        have hl2 := hg.l
        obtain ⟨ix, hix, hix2⟩ : ∃ ix : Nat, mo % (rs.length : Int) = (ix : Int) ∧ ix < rs.length := by
          have h1 : 0 ≤ mo % (rs.length : Int) := Int.emod_nonneg _ (by omega)
          have h2 : mo % (rs.length : Int) < (rs.length : Int) := Int.emod_lt_of_pos _ (by omega)
          exact ⟨(mo % (rs.length : Int)).toNat, by omega, by omega⟩
        obtain ⟨t, ht⟩ : ∃ t : Nat, mo / 50 % 2 = (t : Int) := ⟨(mo / 50 % 2).toNat, by omega⟩
        have er : rs[ix]? = some rs[ix] := List.getElem?_eq_getElem hix2
        have hrm : rs[ix] ∈ rs := List.getElem_mem hix2
        generalize rs[ix] = r at er hrm
        have wr := wf.r r hrm
        have hdrop : ∀ x ∈ r.row.drop t, x ∈ r.row := fun x hx => List.mem_of_mem_drop hx
        have hdl : (r.row.drop t).length ≤ 50 := by rw [List.length_drop]; have := wr.l; omega
        apply ss_seq
        refine ss_asg (d := .tup ((r.row.drop t).map .txt)) (s_is (s_sl (lo := some (t : Int)) (a := .tup (r.row.map .txt)) (s_op (a := rlD r) (s_op (b := .int (ix : Int)) (s_var rfl) (s_is (s_op (s_var rfl) (s_cb (sa_cons (s_var rfl) sa_nil) cs_lenL) (os_mod (by rw [List.length_map]; omega))) (by rw [List.length_map, hix])) (os_ixL (atI_nat (by rw [List.getElem?_map, er]; rfl)))) s_int (os_ixU rfl)) (so_some (s_is (s_op (s_op (s_var rfl) s_int (os_div (by decide))) s_int (os_mod (by decide))) (by rw [ht]))) so_none ss_tup) (by rw [cutA_from, List.map_drop])) ?_
        have hax : atI (aheads.map Dat.txt) (mo / 7 % 3) = some (.txt (aheads.getD (mo / 7 % 3).toNat [])) := atI_mapD _ [] (by omega) (by show _ < (3 : Int); omega)
        have haOk : Okc (aheads.getD (mo / 7 % 3).toNat []) := by
          have : ∀ a ∈ aheads, okTb a = true := by decide +kernel
          exact (okTb_ok (this _ (getD_inL (by show _ < 3; omega)))).c
        apply ss_seq
        refine ss_asg (d := .txt (aheads.getD (mo / 7 % 3).toNat [])) (s_op (a := .lst (aheads.map .txt)) (by walk_at "sem") (s_op (s_op (s_var rfl) s_int (os_div (by decide))) s_int (os_mod (by decide))) (os_ixL hax)) ?_
        generalize aheads.getD (mo / 7 % 3).toNat [] = ah at haOk ⊢
        have hkin : ∀ x ∈ r.row.drop t, isKind x = true → x ∈ kinds rs := fun x hx hk => mem_kinds.mpr ⟨hk, r, hrm, hdrop x hx⟩
        generalize r.row.drop t = row at hdrop hdl hkin ⊢
        have q_beg : R_begins X [looksD X rs, .tup (row.map .txt), .txt ah] (.mt (.pl ((srt (begF rs row ah)).map .txt))) := ⟨rs, row, ah, rfl, wf, few, fun x hx => ⟨(wr.s x (hdrop x hx)).1, hkin x hx⟩, hdl, rfl⟩
        have bnd : (begF rs row ah).Nodup := by
          unfold begF
          split
          · exact addS_nd (hdOf_nd List.nodup_nil)
          · exact hdOf_nd List.nodup_nil
        have bmem : ∀ x, x ∈ srt (begF rs row ah) ↔ x ∈ ofA (firstsF rs) row ah := fun x => by
          rw [(srt_perm _).mem_iff, begs_iff wf, ofA_iff wf]
        have bnd2 : (srt (begF rs row ah)).Nodup := (srt_perm _).nodup_iff.mpr bnd
        have blt := srt_lt bnd
        have bok : ∀ x ∈ srt (begF rs row ah), Okc x := fun x hx => by
          rcases (begs_iff wf).mp ((srt_perm _).mem_iff.mp hx) with q | q
          · rcases q.isK.2 with z | z
            · exact (wr.s x (hdrop x z)).1.c
            · obtain ⟨r', hr', hm⟩ := z
              exact ((wf.r r' hr').s x hm).1.c
          · rw [q.2]; exact haOk
        have olen := of_few few fHI (row := row) hkin (ah := ah)
        have bl : (srt (begF rs row ah)).length ≤ 100 := Nat.le_trans (nodup_sub_len bnd2 fun x hx => (bmem x).mp hx) olen
        generalize srt (begF rs row ah) = out at q_beg bmem bnd2 blt bok bl
        apply ss_seq
        refine ss_asgM (o := .pl (out.map .txt)) (sm_mu (s_var rfl) (sa_cons (s_var rfl) (sa_cons (s_var rfl) sa_nil)) (.head _) rfl q_beg) ?_
        apply ss_seq
        refine ss_if (k := false) (st_peekA (st_is (st_or (k := !true) (l := !true) (st_not (st_bl (s_cb (sa_cons (s_var rfl) (sa_cons s_ty sa_nil)) (cs_isiU rfl (by walk_at "kitb"))))) fun _ => st_test (s_op (s_var rfl) (s_ofN (sn_sortSetT (l := ofA (firstsF rs) row ah) (out := out) (s_ofM (o := .pl ((ofA (firstsF rs) row ah).map .txt)) (sm_callO0 (sa_cons (s_var rfl) (sa_cons (s_var rfl) (sa_cons (s_var rfl) sa_nil))) ⟨firstsF rs, row, ah, rfl, fun x hx => wr.s x (hdrop x hx), hdl, hflen, rfl⟩)) (by omega) bnd2 bmem blt)) (os_neK (k := true) (good_lst bok) (good_lst bok) (by decide) (by decide) ⟨fun _ => rfl, fun _ => rfl⟩))) rfl)) (fun z => by cases z) (fun _ => ss_next ?_)
        refine ss_app (i := 15) (ds := out.map .txt) rfl s_str (by rw [List.length_map]; omega) ?_
        exact ⟨_, _, _, _, _, rfl⟩
      · rintro ρ1 ⟨s11, s12, s13, s14, s15, rfl⟩
        have sA : ∀ {ρ : List Sl}, Sem K (tC (.str (Str.ofString "a"))) ρ (.txt tAa) := fun {ρ} => s_str
        have q_a := q_first aIn
        apply ss_seq
        refine ss_appNew (sn_ofM (sm_mu (s_var rfl) sa_nil (.head _) rfl q_parts)) s_str (by rw [List.length_map]; omega) ?_
        apply ss_seq
        refine ss_appNew (sn_ofM (sm_mu (s_var rfl) sa_nil (.head _) rfl q_empt)) s_str (by rw [List.length_map]; omega) ?_
        apply ss_seq
        refine ss_appNew (sn_ofM (sm_mu (s_var rfl) (sa_cons sA sa_nil) (.head _) rfl q_a)) s_str (by rw [List.length_map]; have := hhl tAa; omega) ?_
        apply ss_seq
        refine ss_if (k := false) (st_is (st_or (k := !true) (l := !true) (st_test (s_op (s_ofM (o := .pl ((srt (bareF rs)).map .txt)) (sm_mu (s_var rfl) sa_nil (.head _) rfl q_empt)) (s_var rfl) (os_neK (k := true) gba gba (by decide) (by decide) ⟨fun _ => rfl, fun _ => rfl⟩))) fun _ => st_test (s_op (s_ofM (o := .pl ((srt (gH (headsF rs) tAa)).map .txt)) (sm_mu (s_var rfl) (sa_cons sA sa_nil) (.head _) rfl q_a)) (srtF rfl rfl aIn sA) (os_neK (k := true) (ghd tAa) (ghd tAa) (by decide) (by decide) ⟨fun _ => rfl, fun _ => rfl⟩))) rfl) (fun z => by cases z) (fun _ => ss_next ?_)
        refine ss_ret (s_andB (k := true) (l := true) (s_op (s_ofM (o := .pl ((pnames rs).map .txt)) (sm_mu (s_var rfl) sa_nil (.head _) rfl q_parts)) (s_var rfl) (os_eqK (k := true) gpn gpn (by decide) (by decide) ⟨fun _ => rfl, fun _ => rfl⟩)) fun _ => s_is (s_op (s_ofM (o := .pl (inD (numsOf rs tNob rs.length))) (sm_mu (s_var rfl) (sa_cons s_str sa_nil) (.head _) rfl (q_num tNob))) (s_lst sa_nil (by decide)) os_eqNil) (by rw [nr]; rfl)) rfl
def R_law (ds : List Dat) (d : Dat) : Prop := ∃ ns : List Int, ds = [.scr ns] ∧ ns.length ≤ 63 ∧ d = .bl true
theorem good_rules {rs : List Rule} (wf : Wf rs) : goodD 3 (.lst (rs.map rlD)) := fun d hd => by
  obtain ⟨r, hr, rfl⟩ := List.mem_map.mp hd
  have w := wf.r r hr
  intro d hd
  rcases List.mem_cons.mp hd with rfl | hd
  · exact w.p.c
  rcases List.mem_cons.mp hd with rfl | hd
  · intro d hd
    obtain ⟨x, hx, rfl⟩ := List.mem_map.mp hd
    exact (w.s x hx).1.c
  · rw [List.mem_singleton.mp hd]
    exact w.w.c
set_option maxHeartbeats 2000000 in
theorem h_law {K : PySem.W.Frag} {W : WX} (ds : List Dat) (d : Dat) (h : R_law ds d) : SemS K W (T_law K (spN K D_rules (valR R_rules)) (spD K R_right)) (slots 4 ds) (PF d) := by
  obtain ⟨ns, rfl, hn, rfl⟩ := h
  have hS : sizeLine = 16777216 := rfl
  apply ss_seq
  refine ss_for (ds := (List.range (max 2 (min ((ns.length : Int) / 3) 12)).toNat).map fun k : Nat => .int ((k : Nat) : Int)) (si_range1Z (sa_cons (s_cb (sa_cons s_int (sa_cons (s_cb (sa_cons (s_op (s_cb (sa_cons (s_var rfl) sa_nil) cs_lenS) s_int (os_div (by decide))) (sa_cons s_int sa_nil)) cs_min) sa_nil)) cs_max2) sa_nil) (by omega) (by omega))
    (fun i ρ => ∃ s1 s2 s3, ρ = [.dat (.scr ns), s1, s2, s3]) ⟨_, _, _, rfl⟩ ?_ ?_
  · rintro k d ρ1 hd ⟨s1, s2, s3, rfl⟩
    obtain ⟨rfl, hk⟩ := getElem_range hd
    have hk12 : k < 12 := by omega
    refine ⟨_, sg_name, ?_⟩
    apply ss_seq
    refine ss_asgE (S := fun d ρ' => ρ' = [.dat (.scr ns), .dat (.int (k : Int)), s2, s3] ∧ R_rules [] d) (X := noX) (se_callN (sea_of (sa_cons (s_var rfl) (sa_cons (a := .int (100 * (k : Int))) (s_op s_int (s_var rfl) (os_mul (by walk_at "mul"))) sa_nil)) ⟨⟨ns, _, rfl, hn, by omega, by omega⟩, fun o ho => ?_⟩)) (fun d ρ' ⟨e1, e2⟩ => ⟨_, sg_name, ?_⟩) (fun _ _ _ z => z.elim)
    · obtain ⟨d, e, q⟩ := ho
      exact ⟨d, e, rfl, q⟩
    subst e1
    obtain ⟨rs, rfl, hg⟩ := e2
    have wf := hg.wf (by decide)
    apply ss_seq
    refine ss_asg (d := .lst (rs.map rlD)) (s_ofN (sn_list (sa_cons (s_var rfl) sa_nil) rfl)) ?_
    refine ss_if (k := false) (st_is (st_or (k := !true) (l := !true) (st_not (st_bl (s_call (sa_cons (s_var rfl) (sa_cons (s_var rfl) (sa_cons (a := .int (50 + 100 * (k : Int))) (s_op s_int (s_op s_int (s_var rfl) (os_mul (by walk_at "mul"))) os_addI) sa_nil))) ⟨rs, ns, _, rfl, hg, hn, by omega, by omega, rfl⟩))) fun _ => st_test (s_op (s_var rfl) (s_var rfl) (os_neK (k := true) (good_rules wf) (good_rules wf) (by decide) (by decide) ⟨fun _ => rfl, fun _ => rfl⟩))) rfl) (fun z => by cases z) (fun _ => ss_next ⟨_, _, _, rfl⟩)
  · rintro ρ1 ⟨s1, s2, s3, rfl⟩
    exact ss_ret s_bl rfl
theorem len_is_of  : ∀ ds d, R_is_of ds d → ds.length = 3 := by rintro ds d ⟨_, _, _, rfl, _⟩; rfl
theorem len_is_fixed  : ∀ ds d, R_is_fixed ds d → ds.length = 1 := by rintro ds d ⟨_, _, rfl, _⟩; rfl
theorem len_is_kind  : ∀ ds d, R_is_kind ds d → ds.length = 1 := by rintro ds d ⟨_, _, rfl, _⟩; rfl
theorem len__law_cell  : ∀ ds d, R__law_cell ds d → ds.length = 2 := by rintro ds d ⟨_, _, rfl, _⟩; rfl
theorem len__law_kinds  : ∀ ds d, R__law_kinds ds d → ds.length = 0 := by rintro ds d ⟨rfl, _⟩; rfl
theorem len__law_is_kind  : ∀ ds d, R__law_is_kind ds d → ds.length = 1 := by rintro ds d ⟨_, rfl, _⟩; rfl
theorem len__law_firsts  : ∀ ds d, R_lfirsts ds d → ds.length = 1 := by rintro ds d ⟨_, rfl, _⟩; rfl
theorem len__law_of_row  : ∀ ds d, R_of_row ds d → ds.length = 3 := by rintro ds d ⟨_, _, _, rfl, _⟩; rfl
theorem len__law_right  : ∀ ds d, R_right ds d → ds.length = 3 := by rintro ds d ⟨_, _, _, rfl, _⟩; rfl
theorem len_law  : ∀ ds d, R_law ds d → ds.length = 1 := by rintro ds d ⟨_, rfl, _⟩; rfl
theorem len_rules  : ∀ ds, D_rules ds → ds.length = 2 := by rintro ds ⟨_, _, rfl, _⟩; rfl
theorem len_hof {C : Addr} : ∀ ds d, R_hof C ds d → ds.length = 2 := by rintro ds d ⟨_, _, _, _, rfl, _⟩; rfl
theorem len_empties {C : Addr} : ∀ ds d, R_empties C ds d → ds.length = 1 := by rintro ds d ⟨_, rfl, _⟩; rfl
theorem len_firsts {C : Addr} : ∀ ds d, R_firsts C ds d → ds.length = 2 := by rintro ds d ⟨_, _, rfl, _⟩; rfl
theorem len_begins {C : Addr} : ∀ ds d, R_begins C ds d → ds.length = 3 := by rintro ds d ⟨_, _, _, rfl, _⟩; rfl
theorem len_numbers {C : Addr} : ∀ ds d, R_numbers C ds d → ds.length = 2 := by rintro ds d ⟨_, _, rfl, _⟩; rfl
theorem len_parts {C : Addr} : ∀ ds d, R_parts C ds d → ds.length = 1 := by rintro ds d ⟨_, rfl, _⟩; rfl
theorem len_bare {C : Addr} : ∀ as o as', R_bare C as o as' → as.length = 1 ∧ Agree as as' := by rintro as o as' ⟨a, rs, ph, rfl, _, _, rfl⟩; exact ⟨rfl, agree_first (ds := [])⟩
theorem len_heads {C : Addr} : ∀ as o as', R_heads C as o as' → as.length = 1 ∧ Agree as as' := by rintro as o as' ⟨a, rs, ph, rfl, _, _, rfl⟩; exact ⟨rfl, agree_first (ds := [])⟩
theorem len_Looks {C : Addr} : ∀ as o as', R_Looks C as o as' → as.length = 2 ∧ Agree as as' := by rintro as o as' ⟨a, s, rs, rfl, hs, _, _, rfl⟩; exact ⟨rfl, agree2 hs⟩
def spLaw (K : PySem.W.Frag) : Sp := fun vs H Q _ => ∃ (a : Addr) (ns : List Int), vs = [.ref a] ∧ SqL K H a (ns.map V.int) ∧ ns.length ≤ 63 ∧ ∀ H', Q (.bl true) H'
set_option maxHeartbeats 4000000 in
theorem all_mk {l : PySem.W.OpenLaw} {w : World} {K : PySem.W.Frag} {h : Heap} {mg : Str → Option Value} {fa : Addr} (X : K.In h) (G : h.Ns mainGlobals mg) (hfa : mg "law" = some (.ref fa))
    {x_Looks : Addr}
    {od_is_of an_is_of : Option Addr} {sl_is_of : Array (Option Value)} {oc_is_of kV_is_of dc_is_of pm_is_of cd_is_of ct_is_of : Value} {f_is_of : Addr}
    {od_is_fixed an_is_fixed : Option Addr} {sl_is_fixed : Array (Option Value)} {oc_is_fixed kV_is_fixed dc_is_fixed pm_is_fixed cd_is_fixed ct_is_fixed : Value} {f_is_fixed : Addr}
    {od_is_kind an_is_kind : Option Addr} {sl_is_kind : Array (Option Value)} {oc_is_kind kV_is_kind dc_is_kind pm_is_kind cd_is_kind ct_is_kind : Value} {f_is_kind : Addr}
    {ga_OPEN : Addr} {go_OPEN : Option Addr} {gn_OPEN : Nat} {gs_OPEN : Array (Option Value)}
    {od__law_cell an__law_cell : Option Addr} {sl__law_cell : Array (Option Value)} {oc__law_cell kV__law_cell dc__law_cell pm__law_cell cd__law_cell ct__law_cell : Value} {f__law_cell : Addr}
    {od__law_kinds an__law_kinds : Option Addr} {sl__law_kinds : Array (Option Value)} {oc__law_kinds kV__law_kinds dc__law_kinds pm__law_kinds cd__law_kinds ct__law_kinds : Value} {f__law_kinds : Addr}
    {od__law_begun_rules an__law_begun_rules : Option Addr} {sl__law_begun_rules : Array (Option Value)} {oc__law_begun_rules kV__law_begun_rules dc__law_begun_rules pm__law_begun_rules cd__law_begun_rules ct__law_begun_rules : Value} {f__law_begun_rules : Addr}
    {od__law_level_rules an__law_level_rules : Option Addr} {sl__law_level_rules : Array (Option Value)} {oc__law_level_rules kV__law_level_rules dc__law_level_rules pm__law_level_rules cd__law_level_rules ct__law_level_rules : Value} {f__law_level_rules : Addr}
    {od__law_list_rules an__law_list_rules : Option Addr} {sl__law_list_rules : Array (Option Value)} {oc__law_list_rules kV__law_list_rules dc__law_list_rules pm__law_list_rules cd__law_list_rules ct__law_list_rules : Value} {f__law_list_rules : Addr}
    {od__law_any_rules an__law_any_rules : Option Addr} {sl__law_any_rules : Array (Option Value)} {oc__law_any_rules kV__law_any_rules dc__law_any_rules pm__law_any_rules cd__law_any_rules ct__law_any_rules : Value} {f__law_any_rules : Addr}
    {od__law_rules an__law_rules : Option Addr} {sl__law_rules : Array (Option Value)} {oc__law_rules kV__law_rules dc__law_rules pm__law_rules cd__law_rules ct__law_rules : Value} {f__law_rules : Addr}
    {od__law_is_kind an__law_is_kind : Option Addr} {sl__law_is_kind : Array (Option Value)} {oc__law_is_kind kV__law_is_kind dc__law_is_kind pm__law_is_kind cd__law_is_kind ct__law_is_kind : Value} {f__law_is_kind : Addr}
    {od_Looks_find_bare an_Looks_find_bare : Option Addr} {sl_Looks_find_bare : Array (Option Value)} {oc_Looks_find_bare kV_Looks_find_bare dc_Looks_find_bare pm_Looks_find_bare cd_Looks_find_bare ct_Looks_find_bare : Value} {f_Looks_find_bare : Addr}
    {od_Looks_heads_of an_Looks_heads_of : Option Addr} {sl_Looks_heads_of : Array (Option Value)} {oc_Looks_heads_of kV_Looks_heads_of dc_Looks_heads_of pm_Looks_heads_of cd_Looks_heads_of ct_Looks_heads_of : Value} {f_Looks_heads_of : Addr}
    {od_Looks_find_heads an_Looks_find_heads : Option Addr} {sl_Looks_find_heads : Array (Option Value)} {oc_Looks_find_heads kV_Looks_find_heads dc_Looks_find_heads pm_Looks_find_heads cd_Looks_find_heads ct_Looks_find_heads : Value} {f_Looks_find_heads : Addr}
    {od_Looks___init__ an_Looks___init__ : Option Addr} {sl_Looks___init__ : Array (Option Value)} {oc_Looks___init__ kV_Looks___init__ dc_Looks___init__ pm_Looks___init__ cd_Looks___init__ ct_Looks___init__ : Value} {f_Looks___init__ : Addr}
    {od_Looks_empties an_Looks_empties : Option Addr} {sl_Looks_empties : Array (Option Value)} {oc_Looks_empties kV_Looks_empties dc_Looks_empties pm_Looks_empties cd_Looks_empties ct_Looks_empties : Value} {f_Looks_empties : Addr}
    {od_Looks_firsts an_Looks_firsts : Option Addr} {sl_Looks_firsts : Array (Option Value)} {oc_Looks_firsts kV_Looks_firsts dc_Looks_firsts pm_Looks_firsts cd_Looks_firsts ct_Looks_firsts : Value} {f_Looks_firsts : Addr}
    {od_Looks_numbers an_Looks_numbers : Option Addr} {sl_Looks_numbers : Array (Option Value)} {oc_Looks_numbers kV_Looks_numbers dc_Looks_numbers pm_Looks_numbers cd_Looks_numbers ct_Looks_numbers : Value} {f_Looks_numbers : Addr}
    {od_Looks_parts an_Looks_parts : Option Addr} {sl_Looks_parts : Array (Option Value)} {oc_Looks_parts kV_Looks_parts dc_Looks_parts pm_Looks_parts cd_Looks_parts ct_Looks_parts : Value} {f_Looks_parts : Addr}
    {od_Looks_begins an_Looks_begins : Option Addr} {sl_Looks_begins : Array (Option Value)} {oc_Looks_begins kV_Looks_begins dc_Looks_begins pm_Looks_begins cd_Looks_begins ct_Looks_begins : Value} {f_Looks_begins : Addr}
    {od__law_of_row an__law_of_row : Option Addr} {sl__law_of_row : Array (Option Value)} {oc__law_of_row kV__law_of_row dc__law_of_row pm__law_of_row cd__law_of_row ct__law_of_row : Value} {f__law_of_row : Addr}
    {od__law_firsts an__law_firsts : Option Addr} {sl__law_firsts : Array (Option Value)} {oc__law_firsts kV__law_firsts dc__law_firsts pm__law_firsts cd__law_firsts ct__law_firsts : Value} {f__law_firsts : Addr}
    {od__law_right an__law_right : Option Addr} {sl__law_right : Array (Option Value)} {oc__law_right kV__law_right dc__law_right pm__law_right cd__law_right ct__law_right : Value} {f__law_right : Addr}
    {od_law an_law : Option Addr} {sl_law : Array (Option Value)} {oc_law kV_law dc_law pm_law cd_law ct_law : Value} {f_law : Addr} {tk1 tk2 tk3 tk4 tk5 tk6 tk7 : Tok}
    (n_Looks : PySem.W.nsIn K mainGlobals "Looks" = some (some (.ref x_Looks)))
    (pg_Looks : PySem.W.plainGet K x_Looks Str.empty = true)
    (hd_Looks : PySem.W.hasDictIn K x_Looks = true)
    (po_Looks : PySem.W.plainOver K x_Looks = true)
    (sa_Looks : PySem.W.findIn K (.ref x_Looks) "__setattr__" = some (some (.builtin "object.__setattr__")))
    (cc_Looks : PySem.W.findIn K (.ref x_Looks) "__class__" = some (some (.builtin "object.__class__")))
    (cn : PySem.W.specialIn K (.builtin "object.__class__") "__get__" = some (some (.builtin "getset_descriptor.__get__")))
    (ct : PySem.W.takesIn K (.builtin "object.__class__") = some true)
    (mo_Looks : PySem.W.mroIn K x_Looks (.type "object") = some true)
    (kp_Looks : PySem.W.keepIn K (.ref x_Looks) = true)
    (nf_Looks_rules : PySem.W.findIn K (.ref x_Looks) "rules" = some none)
    (nf_Looks_by_part : PySem.W.findIn K (.ref x_Looks) "by_part" = some none)
    (nf_Looks_bare : PySem.W.findIn K (.ref x_Looks) "bare" = some none)
    (nf_Looks_heads : PySem.W.findIn K (.ref x_Looks) "heads" = some none)
    (a_is_of : PySem.W.nsIn K mainGlobals "is_of" = some (some (.ref f_is_of)))
    (l_is_of : K.lookup f_is_of = some ⟨oc_is_of, od_is_of, .func (PySem.W.fnOf "is_of" "is_of" (defArgs s_is_of) (defBody s_is_of) (defScope s_is_of) .none kV_is_of dc_is_of pm_is_of an_is_of cd_is_of ct_is_of), sl_is_of⟩)
    (c_is_of : PySem.W.codeIn K cd_is_of "is_of" = true)
    (k_is_of : PySem.W.keepIn K (.ref f_is_of) = true)
    (z_len : PySem.W.nsIn K mainGlobals "len" = some none)
    (z_all : PySem.W.nsIn K mainGlobals "all" = some none)
    (a_is_fixed : PySem.W.nsIn K mainGlobals "is_fixed" = some (some (.ref f_is_fixed)))
    (l_is_fixed : K.lookup f_is_fixed = some ⟨oc_is_fixed, od_is_fixed, .func (PySem.W.fnOf "is_fixed" "is_fixed" (defArgs s_is_fixed) (defBody s_is_fixed) (defScope s_is_fixed) .none kV_is_fixed dc_is_fixed pm_is_fixed an_is_fixed cd_is_fixed ct_is_fixed), sl_is_fixed⟩)
    (c_is_fixed : PySem.W.codeIn K cd_is_fixed "is_fixed" = true)
    (k_is_fixed : PySem.W.keepIn K (.ref f_is_fixed) = true)
    (n_LETTERS : PySem.W.nsIn K mainGlobals "LETTERS" = some (some (.str (Str.ofString "abcdefghijklmnopqrstuvwxyz") tk1)))
    (n_MOST_LETTERS : PySem.W.nsIn K mainGlobals "MOST_LETTERS" = some (some (.int 8 tk2)))
    (n_SIGNS : PySem.W.nsIn K mainGlobals "SIGNS" = some (some (.str (Str.ofString "!#$&()*+,-./:;<=>?@\x5b]^{|}~") tk3)))
    (n_MOST_SIGNS : PySem.W.nsIn K mainGlobals "MOST_SIGNS" = some (some (.int 3 tk4)))
    (z_isinstance : PySem.W.nsIn K mainGlobals "isinstance" = some none)
    (z_str : PySem.W.nsIn K mainGlobals "str" = some none)
    (a_is_kind : PySem.W.nsIn K mainGlobals "is_kind" = some (some (.ref f_is_kind)))
    (l_is_kind : K.lookup f_is_kind = some ⟨oc_is_kind, od_is_kind, .func (PySem.W.fnOf "is_kind" "is_kind" (defArgs s_is_kind) (defBody s_is_kind) (defScope s_is_kind) .none kV_is_kind dc_is_kind pm_is_kind an_is_kind cd_is_kind ct_is_kind), sl_is_kind⟩)
    (c_is_kind : PySem.W.codeIn K cd_is_kind "is_kind" = true)
    (k_is_kind : PySem.W.keepIn K (.ref f_is_kind) = true)
    (n_OPEN : PySem.W.nsIn K mainGlobals "OPEN" = some (some (.ref ga_OPEN)))
    (o_OPEN : K.lookup ga_OPEN = some ⟨.type "tuple", go_OPEN, .seq #[(.str (Str.ofString "NAME") tk5), (.str (Str.ofString "NUMBER") tk6), (.str (Str.ofString "QUOTE") tk7)] gn_OPEN, gs_OPEN⟩)
    (a__law_cell : PySem.W.nsIn K mainGlobals "_law_cell" = some (some (.ref f__law_cell)))
    (l__law_cell : K.lookup f__law_cell = some ⟨oc__law_cell, od__law_cell, .func (PySem.W.fnOf "_law_cell" "_law_cell" (defArgs s__law_cell) (defBody s__law_cell) (defScope s__law_cell) .none kV__law_cell dc__law_cell pm__law_cell an__law_cell cd__law_cell ct__law_cell), sl__law_cell⟩)
    (c__law_cell : PySem.W.codeIn K cd__law_cell "_law_cell" = true)
    (k__law_cell : PySem.W.keepIn K (.ref f__law_cell) = true)
    (a__law_kinds : PySem.W.nsIn K mainGlobals "_law_kinds" = some (some (.ref f__law_kinds)))
    (l__law_kinds : K.lookup f__law_kinds = some ⟨oc__law_kinds, od__law_kinds, .func (PySem.W.fnOf "_law_kinds" "_law_kinds" (defArgs s__law_kinds) (defBody s__law_kinds) (defScope s__law_kinds) .none kV__law_kinds dc__law_kinds pm__law_kinds an__law_kinds cd__law_kinds ct__law_kinds), sl__law_kinds⟩)
    (c__law_kinds : PySem.W.codeIn K cd__law_kinds "_law_kinds" = true)
    (k__law_kinds : PySem.W.keepIn K (.ref f__law_kinds) = true)
    (a__law_begun_rules : PySem.W.nsIn K mainGlobals "_law_begun_rules" = some (some (.ref f__law_begun_rules)))
    (l__law_begun_rules : K.lookup f__law_begun_rules = some ⟨oc__law_begun_rules, od__law_begun_rules, .func (PySem.W.fnOf "_law_begun_rules" "_law_begun_rules" (defArgs s__law_begun_rules) (defBody s__law_begun_rules) (defScope s__law_begun_rules) .none kV__law_begun_rules dc__law_begun_rules pm__law_begun_rules an__law_begun_rules cd__law_begun_rules ct__law_begun_rules), sl__law_begun_rules⟩)
    (c__law_begun_rules : PySem.W.codeIn K cd__law_begun_rules "_law_begun_rules" = true)
    (k__law_begun_rules : PySem.W.keepIn K (.ref f__law_begun_rules) = true)
    (z_range : PySem.W.nsIn K mainGlobals "range" = some none)
    (z_int : PySem.W.nsIn K mainGlobals "int" = some none)
    (z_tuple : PySem.W.nsIn K mainGlobals "tuple" = some none)
    (a__law_level_rules : PySem.W.nsIn K mainGlobals "_law_level_rules" = some (some (.ref f__law_level_rules)))
    (l__law_level_rules : K.lookup f__law_level_rules = some ⟨oc__law_level_rules, od__law_level_rules, .func (PySem.W.fnOf "_law_level_rules" "_law_level_rules" (defArgs s__law_level_rules) (defBody s__law_level_rules) (defScope s__law_level_rules) .none kV__law_level_rules dc__law_level_rules pm__law_level_rules an__law_level_rules cd__law_level_rules ct__law_level_rules), sl__law_level_rules⟩)
    (c__law_level_rules : PySem.W.codeIn K cd__law_level_rules "_law_level_rules" = true)
    (k__law_level_rules : PySem.W.keepIn K (.ref f__law_level_rules) = true)
    (a__law_list_rules : PySem.W.nsIn K mainGlobals "_law_list_rules" = some (some (.ref f__law_list_rules)))
    (l__law_list_rules : K.lookup f__law_list_rules = some ⟨oc__law_list_rules, od__law_list_rules, .func (PySem.W.fnOf "_law_list_rules" "_law_list_rules" (defArgs s__law_list_rules) (defBody s__law_list_rules) (defScope s__law_list_rules) .none kV__law_list_rules dc__law_list_rules pm__law_list_rules an__law_list_rules cd__law_list_rules ct__law_list_rules), sl__law_list_rules⟩)
    (c__law_list_rules : PySem.W.codeIn K cd__law_list_rules "_law_list_rules" = true)
    (k__law_list_rules : PySem.W.keepIn K (.ref f__law_list_rules) = true)
    (a__law_any_rules : PySem.W.nsIn K mainGlobals "_law_any_rules" = some (some (.ref f__law_any_rules)))
    (l__law_any_rules : K.lookup f__law_any_rules = some ⟨oc__law_any_rules, od__law_any_rules, .func (PySem.W.fnOf "_law_any_rules" "_law_any_rules" (defArgs s__law_any_rules) (defBody s__law_any_rules) (defScope s__law_any_rules) .none kV__law_any_rules dc__law_any_rules pm__law_any_rules an__law_any_rules cd__law_any_rules ct__law_any_rules), sl__law_any_rules⟩)
    (c__law_any_rules : PySem.W.codeIn K cd__law_any_rules "_law_any_rules" = true)
    (k__law_any_rules : PySem.W.keepIn K (.ref f__law_any_rules) = true)
    (z_min : PySem.W.nsIn K mainGlobals "min" = some none)
    (a__law_rules : PySem.W.nsIn K mainGlobals "_law_rules" = some (some (.ref f__law_rules)))
    (l__law_rules : K.lookup f__law_rules = some ⟨oc__law_rules, od__law_rules, .func (PySem.W.fnOf "_law_rules" "_law_rules" (defArgs s__law_rules) (defBody s__law_rules) (defScope s__law_rules) .none kV__law_rules dc__law_rules pm__law_rules an__law_rules cd__law_rules ct__law_rules), sl__law_rules⟩)
    (c__law_rules : PySem.W.codeIn K cd__law_rules "_law_rules" = true)
    (k__law_rules : PySem.W.keepIn K (.ref f__law_rules) = true)
    (a__law_is_kind : PySem.W.nsIn K mainGlobals "_law_is_kind" = some (some (.ref f__law_is_kind)))
    (l__law_is_kind : K.lookup f__law_is_kind = some ⟨oc__law_is_kind, od__law_is_kind, .func (PySem.W.fnOf "_law_is_kind" "_law_is_kind" (defArgs s__law_is_kind) (defBody s__law_is_kind) (defScope s__law_is_kind) .none kV__law_is_kind dc__law_is_kind pm__law_is_kind an__law_is_kind cd__law_is_kind ct__law_is_kind), sl__law_is_kind⟩)
    (c__law_is_kind : PySem.W.codeIn K cd__law_is_kind "_law_is_kind" = true)
    (k__law_is_kind : PySem.W.keepIn K (.ref f__law_is_kind) = true)
    (a_Looks_find_bare : PySem.W.findIn K (.ref x_Looks) "find_bare" = some (some (.ref f_Looks_find_bare)))
    (l_Looks_find_bare : K.lookup f_Looks_find_bare = some ⟨oc_Looks_find_bare, od_Looks_find_bare, .func (PySem.W.fnOf "find_bare" "Looks.find_bare" (defArgs s_Looks_find_bare) (defBody s_Looks_find_bare) (defScope s_Looks_find_bare) .none kV_Looks_find_bare dc_Looks_find_bare pm_Looks_find_bare an_Looks_find_bare cd_Looks_find_bare ct_Looks_find_bare), sl_Looks_find_bare⟩)
    (c_Looks_find_bare : PySem.W.codeIn K cd_Looks_find_bare "Looks.find_bare" = true)
    (k_Looks_find_bare : PySem.W.keepIn K (.ref f_Looks_find_bare) = true)
    (if_Looks_find_bare : PySem.W.isFn K (.ref f_Looks_find_bare) = true)
    (a_Looks_heads_of : PySem.W.findIn K (.ref x_Looks) "heads_of" = some (some (.ref f_Looks_heads_of)))
    (l_Looks_heads_of : K.lookup f_Looks_heads_of = some ⟨oc_Looks_heads_of, od_Looks_heads_of, .func (PySem.W.fnOf "heads_of" "Looks.heads_of" (defArgs s_Looks_heads_of) (defBody s_Looks_heads_of) (defScope s_Looks_heads_of) .none kV_Looks_heads_of dc_Looks_heads_of pm_Looks_heads_of an_Looks_heads_of cd_Looks_heads_of ct_Looks_heads_of), sl_Looks_heads_of⟩)
    (c_Looks_heads_of : PySem.W.codeIn K cd_Looks_heads_of "Looks.heads_of" = true)
    (k_Looks_heads_of : PySem.W.keepIn K (.ref f_Looks_heads_of) = true)
    (if_Looks_heads_of : PySem.W.isFn K (.ref f_Looks_heads_of) = true)
    (a_Looks_find_heads : PySem.W.findIn K (.ref x_Looks) "find_heads" = some (some (.ref f_Looks_find_heads)))
    (l_Looks_find_heads : K.lookup f_Looks_find_heads = some ⟨oc_Looks_find_heads, od_Looks_find_heads, .func (PySem.W.fnOf "find_heads" "Looks.find_heads" (defArgs s_Looks_find_heads) (defBody s_Looks_find_heads) (defScope s_Looks_find_heads) .none kV_Looks_find_heads dc_Looks_find_heads pm_Looks_find_heads an_Looks_find_heads cd_Looks_find_heads ct_Looks_find_heads), sl_Looks_find_heads⟩)
    (c_Looks_find_heads : PySem.W.codeIn K cd_Looks_find_heads "Looks.find_heads" = true)
    (k_Looks_find_heads : PySem.W.keepIn K (.ref f_Looks_find_heads) = true)
    (if_Looks_find_heads : PySem.W.isFn K (.ref f_Looks_find_heads) = true)
    (a_Looks___init__ : PySem.W.findIn K (.ref x_Looks) "__init__" = some (some (.ref f_Looks___init__)))
    (l_Looks___init__ : K.lookup f_Looks___init__ = some ⟨oc_Looks___init__, od_Looks___init__, .func (PySem.W.fnOf "__init__" "Looks.__init__" (defArgs s_Looks___init__) (defBody s_Looks___init__) (defScope s_Looks___init__) .none kV_Looks___init__ dc_Looks___init__ pm_Looks___init__ an_Looks___init__ cd_Looks___init__ ct_Looks___init__), sl_Looks___init__⟩)
    (c_Looks___init__ : PySem.W.codeIn K cd_Looks___init__ "Looks.__init__" = true)
    (k_Looks___init__ : PySem.W.keepIn K (.ref f_Looks___init__) = true)
    (if_Looks___init__ : PySem.W.isFn K (.ref f_Looks___init__) = true)
    (mk_Looks : PySem.W.makesIn K x_Looks = true)
    (z_list : PySem.W.nsIn K mainGlobals "list" = some none)
    (z_enumerate : PySem.W.nsIn K mainGlobals "enumerate" = some none)
    (a_Looks_empties : PySem.W.findIn K (.ref x_Looks) "empties" = some (some (.ref f_Looks_empties)))
    (l_Looks_empties : K.lookup f_Looks_empties = some ⟨oc_Looks_empties, od_Looks_empties, .func (PySem.W.fnOf "empties" "Looks.empties" (defArgs s_Looks_empties) (defBody s_Looks_empties) (defScope s_Looks_empties) .none kV_Looks_empties dc_Looks_empties pm_Looks_empties an_Looks_empties cd_Looks_empties ct_Looks_empties), sl_Looks_empties⟩)
    (c_Looks_empties : PySem.W.codeIn K cd_Looks_empties "Looks.empties" = true)
    (k_Looks_empties : PySem.W.keepIn K (.ref f_Looks_empties) = true)
    (if_Looks_empties : PySem.W.isFn K (.ref f_Looks_empties) = true)
    (z_sorted : PySem.W.nsIn K mainGlobals "sorted" = some none)
    (a_Looks_firsts : PySem.W.findIn K (.ref x_Looks) "firsts" = some (some (.ref f_Looks_firsts)))
    (l_Looks_firsts : K.lookup f_Looks_firsts = some ⟨oc_Looks_firsts, od_Looks_firsts, .func (PySem.W.fnOf "firsts" "Looks.firsts" (defArgs s_Looks_firsts) (defBody s_Looks_firsts) (defScope s_Looks_firsts) .none kV_Looks_firsts dc_Looks_firsts pm_Looks_firsts an_Looks_firsts cd_Looks_firsts ct_Looks_firsts), sl_Looks_firsts⟩)
    (c_Looks_firsts : PySem.W.codeIn K cd_Looks_firsts "Looks.firsts" = true)
    (k_Looks_firsts : PySem.W.keepIn K (.ref f_Looks_firsts) = true)
    (if_Looks_firsts : PySem.W.isFn K (.ref f_Looks_firsts) = true)
    (a_Looks_numbers : PySem.W.findIn K (.ref x_Looks) "numbers" = some (some (.ref f_Looks_numbers)))
    (l_Looks_numbers : K.lookup f_Looks_numbers = some ⟨oc_Looks_numbers, od_Looks_numbers, .func (PySem.W.fnOf "numbers" "Looks.numbers" (defArgs s_Looks_numbers) (defBody s_Looks_numbers) (defScope s_Looks_numbers) .none kV_Looks_numbers dc_Looks_numbers pm_Looks_numbers an_Looks_numbers cd_Looks_numbers ct_Looks_numbers), sl_Looks_numbers⟩)
    (c_Looks_numbers : PySem.W.codeIn K cd_Looks_numbers "Looks.numbers" = true)
    (k_Looks_numbers : PySem.W.keepIn K (.ref f_Looks_numbers) = true)
    (if_Looks_numbers : PySem.W.isFn K (.ref f_Looks_numbers) = true)
    (a_Looks_parts : PySem.W.findIn K (.ref x_Looks) "parts" = some (some (.ref f_Looks_parts)))
    (l_Looks_parts : K.lookup f_Looks_parts = some ⟨oc_Looks_parts, od_Looks_parts, .func (PySem.W.fnOf "parts" "Looks.parts" (defArgs s_Looks_parts) (defBody s_Looks_parts) (defScope s_Looks_parts) .none kV_Looks_parts dc_Looks_parts pm_Looks_parts an_Looks_parts cd_Looks_parts ct_Looks_parts), sl_Looks_parts⟩)
    (c_Looks_parts : PySem.W.codeIn K cd_Looks_parts "Looks.parts" = true)
    (k_Looks_parts : PySem.W.keepIn K (.ref f_Looks_parts) = true)
    (if_Looks_parts : PySem.W.isFn K (.ref f_Looks_parts) = true)
    (a_Looks_begins : PySem.W.findIn K (.ref x_Looks) "begins" = some (some (.ref f_Looks_begins)))
    (l_Looks_begins : K.lookup f_Looks_begins = some ⟨oc_Looks_begins, od_Looks_begins, .func (PySem.W.fnOf "begins" "Looks.begins" (defArgs s_Looks_begins) (defBody s_Looks_begins) (defScope s_Looks_begins) .none kV_Looks_begins dc_Looks_begins pm_Looks_begins an_Looks_begins cd_Looks_begins ct_Looks_begins), sl_Looks_begins⟩)
    (c_Looks_begins : PySem.W.codeIn K cd_Looks_begins "Looks.begins" = true)
    (k_Looks_begins : PySem.W.keepIn K (.ref f_Looks_begins) = true)
    (if_Looks_begins : PySem.W.isFn K (.ref f_Looks_begins) = true)
    (a__law_of_row : PySem.W.nsIn K mainGlobals "_law_of_row" = some (some (.ref f__law_of_row)))
    (l__law_of_row : K.lookup f__law_of_row = some ⟨oc__law_of_row, od__law_of_row, .func (PySem.W.fnOf "_law_of_row" "_law_of_row" (defArgs s__law_of_row) (defBody s__law_of_row) (defScope s__law_of_row) .none kV__law_of_row dc__law_of_row pm__law_of_row an__law_of_row cd__law_of_row ct__law_of_row), sl__law_of_row⟩)
    (c__law_of_row : PySem.W.codeIn K cd__law_of_row "_law_of_row" = true)
    (k__law_of_row : PySem.W.keepIn K (.ref f__law_of_row) = true)
    (a__law_firsts : PySem.W.nsIn K mainGlobals "_law_firsts" = some (some (.ref f__law_firsts)))
    (l__law_firsts : K.lookup f__law_firsts = some ⟨oc__law_firsts, od__law_firsts, .func (PySem.W.fnOf "_law_firsts" "_law_firsts" (defArgs s__law_firsts) (defBody s__law_firsts) (defScope s__law_firsts) .none kV__law_firsts dc__law_firsts pm__law_firsts an__law_firsts cd__law_firsts ct__law_firsts), sl__law_firsts⟩)
    (c__law_firsts : PySem.W.codeIn K cd__law_firsts "_law_firsts" = true)
    (k__law_firsts : PySem.W.keepIn K (.ref f__law_firsts) = true)
    (a__law_right : PySem.W.nsIn K mainGlobals "_law_right" = some (some (.ref f__law_right)))
    (l__law_right : K.lookup f__law_right = some ⟨oc__law_right, od__law_right, .func (PySem.W.fnOf "_law_right" "_law_right" (defArgs s__law_right) (defBody s__law_right) (defScope s__law_right) .none kV__law_right dc__law_right pm__law_right an__law_right cd__law_right ct__law_right), sl__law_right⟩)
    (c__law_right : PySem.W.codeIn K cd__law_right "_law_right" = true)
    (k__law_right : PySem.W.keepIn K (.ref f__law_right) = true)
    (z_set : PySem.W.nsIn K mainGlobals "set" = some none)
    (a_law : PySem.W.nsIn K mainGlobals "law" = some (some (.ref f_law)))
    (l_law : K.lookup f_law = some ⟨oc_law, od_law, .func (PySem.W.fnOf "law" "law" (defArgs s_law) (defBody s_law) (defScope s_law) .none kV_law dc_law pm_law an_law cd_law ct_law), sl_law⟩)
    (c_law : PySem.W.codeIn K cd_law "law" = true)
    (k_law : PySem.W.keepIn K (.ref f_law) = true)
    (z_max : PySem.W.nsIn K mainGlobals "max" = some none) :
    ∃ fd : FuncData, (∀ (s : Shared) (v : Value), BindsTo s fd ⟨[v], []⟩ [("_law_script", v)]) ∧ ∀ base : Heap, K.In base → base.Ns mainGlobals mg → FnOk l.prog w K mg base CX0 9 fa fd ["_law_script"] (spLaw K) := by
  have e := hfa.symm.trans (PySem.W.mg_of X G a_law)
  cases e
  have rv_LETTERS : RelV (V.str (Str.ofString "abcdefghijklmnopqrstuvwxyz")) (.str (Str.ofString "abcdefghijklmnopqrstuvwxyz") tk1) := ⟨_, rfl⟩
  have hd_LETTERS : ∀ G, DR K G (V.str (Str.ofString "abcdefghijklmnopqrstuvwxyz")) (.txt letters) := fun G => .ofStr _
  have rv_MOST_LETTERS : RelV (V.int 8) (.int 8 tk2) := ⟨_, rfl⟩
  have hd_MOST_LETTERS : ∀ G, DR K G (V.int 8) (.int 8) := fun G => .int _
  have rv_SIGNS : RelV (V.str (Str.ofString "!#$&()*+,-./:;<=>?@\x5b]^{|}~")) (.str (Str.ofString "!#$&()*+,-./:;<=>?@\x5b]^{|}~") tk3) := ⟨_, rfl⟩
  have hd_SIGNS : ∀ G, DR K G (V.str (Str.ofString "!#$&()*+,-./:;<=>?@\x5b]^{|}~")) (.txt signs) := fun G => .ofStr _
  have rv_MOST_SIGNS : RelV (V.int 3) (.int 3 tk4) := ⟨_, rfl⟩
  have hd_MOST_SIGNS : ∀ G, DR K G (V.int 3) (.int 3) := fun G => .int _
  have rv_OPEN : RelV (V.ref ga_OPEN) (.ref ga_OPEN) := rfl
  have hd_OPEN : ∀ G, DR K G (V.ref ga_OPEN) (.tup (open3.map .txt)) := fun G => .tup (xs := [(V.str (Str.ofString "NAME")), (V.str (Str.ofString "NUMBER")), (V.str (Str.ofString "QUOTE"))]) (.inr ⟨_, _, _, o_OPEN, rfl, rfl, (by show 3 ≤ sizeLine; decide), (.cons ⟨_, rfl⟩ (.cons ⟨_, rfl⟩ (.cons ⟨_, rfl⟩ .nil)))⟩) (.cons (.ofStr _) (.cons (.ofStr _) (.cons (.ofStr _) .nil)))
  have cl_Looks : Cls K x_Looks := ⟨pg_Looks, hd_Looks, po_Looks, sa_Looks⟩
  have ins_Looks : InsC K x_Looks := ⟨cl_Looks, cc_Looks, cn, ct, mo_Looks⟩
  have kk : KK K x_Looks := ⟨ins_Looks, nf_Looks_rules, nf_Looks_by_part, nf_Looks_bare, nf_Looks_heads⟩
  have F_is_of := fun_mk (st := s_is_of) l_is_of c_is_of k_is_of
  have b_is_of := F_is_of.binds (ps := ["text", "signs", "most"]) fun _ _ _ _ _ _ us hl => match us, hl with | [_, _, _], _ => rfl
  have F_is_fixed := fun_mk (st := s_is_fixed) l_is_fixed c_is_fixed k_is_fixed
  have b_is_fixed := F_is_fixed.binds (ps := ["thing"]) fun _ _ _ _ _ _ us hl => match us, hl with | [_], _ => rfl
  have F_is_kind := fun_mk (st := s_is_kind) l_is_kind c_is_kind k_is_kind
  have b_is_kind := F_is_kind.binds (ps := ["thing"]) fun _ _ _ _ _ _ us hl => match us, hl with | [_], _ => rfl
  have F__law_cell := fun_mk (st := s__law_cell) l__law_cell c__law_cell k__law_cell
  have b__law_cell := F__law_cell.binds (ps := ["_law_script", "_law_k"]) fun _ _ _ _ _ _ us hl => match us, hl with | [_, _], _ => rfl
  have F__law_kinds := fun_mk (st := s__law_kinds) l__law_kinds c__law_kinds k__law_kinds
  have b__law_kinds := F__law_kinds.binds (ps := []) fun _ _ _ _ _ _ us hl => match us, hl with | [], _ => rfl
  have F__law_begun_rules := fun_mk (st := s__law_begun_rules) l__law_begun_rules c__law_begun_rules k__law_begun_rules
  have b__law_begun_rules := F__law_begun_rules.binds (ps := ["_law_script", "_law_first"]) fun _ _ _ _ _ _ us hl => match us, hl with | [_, _], _ => rfl
  have F__law_level_rules := fun_mk (st := s__law_level_rules) l__law_level_rules c__law_level_rules k__law_level_rules
  have b__law_level_rules := F__law_level_rules.binds (ps := ["_law_script", "_law_first"]) fun _ _ _ _ _ _ us hl => match us, hl with | [_, _], _ => rfl
  have F__law_list_rules := fun_mk (st := s__law_list_rules) l__law_list_rules c__law_list_rules k__law_list_rules
  have b__law_list_rules := F__law_list_rules.binds (ps := ["_law_script", "_law_first"]) fun _ _ _ _ _ _ us hl => match us, hl with | [_, _], _ => rfl
  have F__law_any_rules := fun_mk (st := s__law_any_rules) l__law_any_rules c__law_any_rules k__law_any_rules
  have b__law_any_rules := F__law_any_rules.binds (ps := ["_law_script", "_law_first"]) fun _ _ _ _ _ _ us hl => match us, hl with | [_, _], _ => rfl
  have F__law_rules := fun_mk (st := s__law_rules) l__law_rules c__law_rules k__law_rules
  have b__law_rules := F__law_rules.binds (ps := ["_law_script", "_law_first"]) fun _ _ _ _ _ _ us hl => match us, hl with | [_, _], _ => rfl
  have F__law_is_kind := fun_mk (st := s__law_is_kind) l__law_is_kind c__law_is_kind k__law_is_kind
  have b__law_is_kind := F__law_is_kind.binds (ps := ["_law_symbol"]) fun _ _ _ _ _ _ us hl => match us, hl with | [_], _ => rfl
  have F_Looks_find_bare := fun_mk (st := s_Looks_find_bare) l_Looks_find_bare c_Looks_find_bare k_Looks_find_bare
  have b_Looks_find_bare := F_Looks_find_bare.binds (ps := ["self"]) fun _ _ _ _ _ _ us hl => match us, hl with | [_], _ => rfl
  have F_Looks_heads_of := fun_mk (st := s_Looks_heads_of) l_Looks_heads_of c_Looks_heads_of k_Looks_heads_of
  have b_Looks_heads_of := F_Looks_heads_of.binds (ps := ["self", "row"]) fun _ _ _ _ _ _ us hl => match us, hl with | [_, _], _ => rfl
  have F_Looks_find_heads := fun_mk (st := s_Looks_find_heads) l_Looks_find_heads c_Looks_find_heads k_Looks_find_heads
  have b_Looks_find_heads := F_Looks_find_heads.binds (ps := ["self"]) fun _ _ _ _ _ _ us hl => match us, hl with | [_], _ => rfl
  have F_Looks___init__ := fun_mk (st := s_Looks___init__) l_Looks___init__ c_Looks___init__ k_Looks___init__
  have b_Looks___init__ := F_Looks___init__.binds (ps := ["self", "rules"]) fun _ _ _ _ _ _ us hl => match us, hl with | [_, _], _ => rfl
  have F_Looks_empties := fun_mk (st := s_Looks_empties) l_Looks_empties c_Looks_empties k_Looks_empties
  have b_Looks_empties := F_Looks_empties.binds (ps := ["self"]) fun _ _ _ _ _ _ us hl => match us, hl with | [_], _ => rfl
  have F_Looks_firsts := fun_mk (st := s_Looks_firsts) l_Looks_firsts c_Looks_firsts k_Looks_firsts
  have b_Looks_firsts := F_Looks_firsts.binds (ps := ["self", "part"]) fun _ _ _ _ _ _ us hl => match us, hl with | [_, _], _ => rfl
  have F_Looks_numbers := fun_mk (st := s_Looks_numbers) l_Looks_numbers c_Looks_numbers k_Looks_numbers
  have b_Looks_numbers := F_Looks_numbers.binds (ps := ["self", "part"]) fun _ _ _ _ _ _ us hl => match us, hl with | [_, _], _ => rfl
  have F_Looks_parts := fun_mk (st := s_Looks_parts) l_Looks_parts c_Looks_parts k_Looks_parts
  have b_Looks_parts := F_Looks_parts.binds (ps := ["self"]) fun _ _ _ _ _ _ us hl => match us, hl with | [_], _ => rfl
  have F_Looks_begins := fun_mk (st := s_Looks_begins) l_Looks_begins c_Looks_begins k_Looks_begins
  have b_Looks_begins := F_Looks_begins.binds (ps := ["self", "row", "ahead"]) fun _ _ _ _ _ _ us hl => match us, hl with | [_, _, _], _ => rfl
  have F__law_of_row := fun_mk (st := s__law_of_row) l__law_of_row c__law_of_row k__law_of_row
  have b__law_of_row := F__law_of_row.binds (ps := ["_law_firsts_here", "_law_row", "_law_ahead"]) fun _ _ _ _ _ _ us hl => match us, hl with | [_, _, _], _ => rfl
  have F__law_firsts := fun_mk (st := s__law_firsts) l__law_firsts c__law_firsts k__law_firsts
  have b__law_firsts := F__law_firsts.binds (ps := ["_law_rules_here"]) fun _ _ _ _ _ _ us hl => match us, hl with | [_], _ => rfl
  have F__law_right := fun_mk (st := s__law_right) l__law_right c__law_right k__law_right
  have b__law_right := F__law_right.binds (ps := ["_law_rules_here", "_law_script", "_law_k"]) fun _ _ _ _ _ _ us hl => match us, hl with | [_, _, _], _ => rfl
  have F_law := fun_mk (st := s_law) l_law c_law k_law
  have b_law := F_law.binds (ps := ["_law_script"]) fun _ _ _ _ _ _ us hl => match us, hl with | [_], _ => rfl
  refine ⟨PySem.W.fnOf "law" "law" (defArgs s_law) (defBody s_law) (defScope s_law) .none kV_law dc_law pm_law an_law cd_law ct_law, fun s v => .of_eq rfl, fun base _ _ => ?_⟩
  have G_is_of : GD l.prog w K mg base 1 "is_of" ["text", "signs", "most"] (spD K R_is_of) := gd_of (N := ["text", "signs", "most", "sign"]) (ps := ["text", "signs", "most"]) (k := 0) (R := R_is_of) F_is_of (PySem.W.mg_of X G a_is_of) b_is_of sc_is_of len_is_of (p_is_of (PySem.W.mg_none_of X G z_len) (PySem.W.mg_none_of X G z_all)) h_is_of
  have G_is_fixed : GD l.prog w K mg base 2 "is_fixed" ["thing"] (spD K R_is_fixed) := gd_of (N := ["thing"]) (ps := ["thing"]) (k := 1) (R := R_is_fixed) F_is_fixed (PySem.W.mg_of X G a_is_fixed) b_is_fixed sc_is_fixed len_is_fixed (p_is_fixed (G_is_of.mono (by decide)) (PySem.W.mg_of X G n_LETTERS) rv_LETTERS (PySem.W.mg_of X G n_MOST_LETTERS) rv_MOST_LETTERS (PySem.W.mg_of X G n_SIGNS) rv_SIGNS (PySem.W.mg_of X G n_MOST_SIGNS) rv_MOST_SIGNS (PySem.W.mg_none_of X G z_isinstance) (PySem.W.mg_none_of X G z_str)) (h_is_fixed hd_LETTERS hd_MOST_LETTERS hd_SIGNS hd_MOST_SIGNS)
  have G_is_kind : GD l.prog w K mg base 3 "is_kind" ["thing"] (spD K R_is_kind) := gd_of (N := ["thing"]) (ps := ["thing"]) (k := 2) (R := R_is_kind) F_is_kind (PySem.W.mg_of X G a_is_kind) b_is_kind sc_is_kind len_is_kind (p_is_kind (G_is_fixed.mono (by decide)) (PySem.W.mg_of X G n_OPEN) rv_OPEN (PySem.W.mg_none_of X G z_isinstance) (PySem.W.mg_none_of X G z_str)) (h_is_kind hd_OPEN)
  have G__law_cell : GD l.prog w K mg base 1 "_law_cell" ["_law_script", "_law_k"] (spD K R__law_cell) := gd_of (N := ["_law_script", "_law_k", "_law_cell_here", "_law_more"]) (ps := ["_law_script", "_law_k"]) (k := 0) (R := R__law_cell) F__law_cell (PySem.W.mg_of X G a__law_cell) b__law_cell sc__law_cell len__law_cell (p__law_cell (PySem.W.mg_none_of X G z_len)) h__law_cell
  have G__law_kinds : GD l.prog w K mg base 1 "_law_kinds" [] (spD K R__law_kinds) := gd_of (N := []) (ps := []) (k := 0) (R := R__law_kinds) F__law_kinds (PySem.W.mg_of X G a__law_kinds) b__law_kinds sc__law_kinds len__law_kinds (p__law_kinds) h__law_kinds
  have G__law_begun_rules : GD l.prog w K mg base 2 "_law_begun_rules" ["_law_script", "_law_first"] (spN K D_rules (valR R_rules)) := gn_of (N := ["_law_script", "_law_first", "_law_many", "_law_rules_here", "_law_p", "_law_part", "_law_count", "_law_turn", "_law_r", "_law_row", "_law_j", "_law_more"]) (ps := ["_law_script", "_law_first"]) (k := 1) (D := D_rules) (R := R_rules) F__law_begun_rules (PySem.W.mg_of X G a__law_begun_rules) b__law_begun_rules sc__law_begun_rules len_rules (p__law_begun_rules (G__law_cell.mono (by decide)) (G__law_kinds.mono (by decide)) (PySem.W.mg_none_of X G z_range) (PySem.W.mg_none_of X G z_int) (PySem.W.mg_none_of X G z_tuple)) h__law_begun_rules
  have G__law_level_rules : GD l.prog w K mg base 2 "_law_level_rules" ["_law_script", "_law_first"] (spN K D_rules (valR R_rules)) := gn_of (N := ["_law_script", "_law_first", "_law_many", "_law_rules_here", "_law_p", "_law_part", "_law_tighter", "_law_word", "_law_way", "_law_some", "_law_last"]) (ps := ["_law_script", "_law_first"]) (k := 1) (D := D_rules) (R := R_rules) F__law_level_rules (PySem.W.mg_of X G a__law_level_rules) b__law_level_rules sc__law_level_rules len_rules (p__law_level_rules (G__law_cell.mono (by decide)) (G__law_kinds.mono (by decide)) (PySem.W.mg_none_of X G z_range)) h__law_level_rules
  have G__law_list_rules : GD l.prog w K mg base 2 "_law_list_rules" ["_law_script", "_law_first"] (spN K D_rules (valR R_rules)) := gn_of (N := ["_law_script", "_law_first", "_law_more", "_law_rules_here"]) (ps := ["_law_script", "_law_first"]) (k := 1) (D := D_rules) (R := R_rules) F__law_list_rules (PySem.W.mg_of X G a__law_list_rules) b__law_list_rules sc__law_list_rules len_rules (p__law_list_rules (G__law_cell.mono (by decide))) h__law_list_rules
  have G__law_any_rules : GD l.prog w K mg base 2 "_law_any_rules" ["_law_script", "_law_first"] (spN K D_rules (valR R_rules)) := gn_of (N := ["_law_script", "_law_first", "_law_many", "_law_rules_here", "_law_p", "_law_r", "_law_row", "_law_j", "_law_more"]) (ps := ["_law_script", "_law_first"]) (k := 1) (D := D_rules) (R := R_rules) F__law_any_rules (PySem.W.mg_of X G a__law_any_rules) b__law_any_rules sc__law_any_rules len_rules (p__law_any_rules (G__law_cell.mono (by decide)) (G__law_kinds.mono (by decide)) (PySem.W.mg_none_of X G z_range) (PySem.W.mg_none_of X G z_min) (PySem.W.mg_none_of X G z_tuple)) h__law_any_rules
  have G__law_rules : GD l.prog w K mg base 3 "_law_rules" ["_law_script", "_law_first"] (spN K D_rules (valR R_rules)) := gn_of (N := ["_law_script", "_law_first", "_law_way"]) (ps := ["_law_script", "_law_first"]) (k := 2) (D := D_rules) (R := R_rules) F__law_rules (PySem.W.mg_of X G a__law_rules) b__law_rules sc__law_rules len_rules (p__law_rules (G__law_cell.mono (by decide)) (G__law_begun_rules.mono (by decide)) (G__law_level_rules.mono (by decide)) (G__law_list_rules.mono (by decide)) (G__law_any_rules.mono (by decide))) h__law_rules
  have G__law_is_kind : GD l.prog w K mg base 1 "_law_is_kind" ["_law_symbol"] (spD K R__law_is_kind) := gd_of (N := ["_law_symbol"]) (ps := ["_law_symbol"]) (k := 0) (R := R__law_is_kind) F__law_is_kind (PySem.W.mg_of X G a__law_is_kind) b__law_is_kind sc__law_is_kind len__law_is_kind (p__law_is_kind) h__law_is_kind
  have O_Looks_find_bare : FnOk l.prog w K mg base (L2.CX l.prog w) 1 f_Looks_find_bare _ ["self"] (spL K (R_bare x_Looks)) := fn_l (N := ["self", "changed", "part", "row", "way", "symbol"]) (ps := ["self"]) (k := 0) (R := (R_bare x_Looks)) (T := fun W => T_Looks_find_bare K W) F_Looks_find_bare sc_Looks_find_bare len_bare (p_Looks_find_bare (PySem.W.mg_none_of X G z_all)) (fun _ => h_Looks_find_bare kk)
  have G_Looks_find_bare : MD l.prog w K mg base 1 "find_bare" x_Looks (spL K (R_bare x_Looks)) := ⟨cl_Looks, f_Looks_find_bare, _, ["self"], ⟨a_Looks_find_bare, if_Looks_find_bare, k_Looks_find_bare⟩, O_Looks_find_bare, b_Looks_find_bare⟩
  have O_Looks_heads_of : FnOk l.prog w K mg base (L2.CX l.prog w) 4 f_Looks_heads_of _ ["self", "row"] (spO K (R_hof x_Looks)) := fn_dx (N := ["self", "row", "found", "symbol"]) (ps := ["self", "row"]) (k := 3) (R := (R_hof x_Looks)) (T := fun W => T_Looks_heads_of K _ W) F_Looks_heads_of sc_Looks_heads_of len_hof (p_Looks_heads_of (G_is_kind.mono (by decide))) (fun _ => h_Looks_heads_of kk)
  have G_Looks_heads_of : MD l.prog w K mg base 4 "heads_of" x_Looks (spO K (R_hof x_Looks)) := ⟨cl_Looks, f_Looks_heads_of, _, ["self", "row"], ⟨a_Looks_heads_of, if_Looks_heads_of, k_Looks_heads_of⟩, O_Looks_heads_of, b_Looks_heads_of⟩
  have O_Looks_find_heads : FnOk l.prog w K mg base (L2.CX l.prog w) 5 f_Looks_find_heads _ ["self"] (spL K (R_heads x_Looks)) := fn_l (N := ["self", "part", "changed", "row", "way", "kind"]) (ps := ["self"]) (k := 4) (R := (R_heads x_Looks)) (T := fun W => T_Looks_find_heads K _ W) F_Looks_find_heads sc_Looks_find_heads len_heads (p_Looks_find_heads (mds_cons (G_Looks_heads_of.mono (by decide)) mds_nil)) (fun _ => h_Looks_find_heads kk (.head _))
  have G_Looks_find_heads : MD l.prog w K mg base 5 "find_heads" x_Looks (spL K (R_heads x_Looks)) := ⟨cl_Looks, f_Looks_find_heads, _, ["self"], ⟨a_Looks_find_heads, if_Looks_find_heads, k_Looks_find_heads⟩, O_Looks_find_heads, b_Looks_find_heads⟩
  have G_Looks___init__ : CD l.prog w K mg base 6 "Looks" x_Looks [] (spL K (R_Looks x_Looks)) := ⟨PySem.W.mg_of X G n_Looks, f_Looks___init__, _, ["self", "rules"], [], ⟨mk_Looks, a_Looks___init__, if_Looks___init__, kp_Looks⟩, fn_l (N := ["self", "rules", "number", "rule"]) (ps := ["self", "rules"]) (k := 5) (R := (R_Looks x_Looks)) (T := fun W => T_Looks___init__ K _ _ W) F_Looks___init__ sc_Looks___init__ len_Looks (p_Looks___init__ (mds_cons (G_Looks_find_bare.mono (by decide)) mds_nil) (mds_cons (G_Looks_find_heads.mono (by decide)) mds_nil) (PySem.W.mg_none_of X G z_list) (PySem.W.mg_none_of X G z_enumerate)) (fun _ => h_Looks___init__ kk (.head _) (.head _)), b_Looks___init__, .nil⟩
  have O_Looks_empties : FnOk l.prog w K mg base (L2.CX l.prog w) 1 f_Looks_empties _ ["self"] (spO K (R_empties x_Looks)) := fn_dx (N := ["self"]) (ps := ["self"]) (k := 0) (R := (R_empties x_Looks)) (T := fun W => T_Looks_empties K W) F_Looks_empties sc_Looks_empties len_empties (p_Looks_empties (PySem.W.mg_none_of X G z_sorted)) (fun _ => h_Looks_empties kk)
  have G_Looks_empties : MD l.prog w K mg base 1 "empties" x_Looks (spO K (R_empties x_Looks)) := ⟨cl_Looks, f_Looks_empties, _, ["self"], ⟨a_Looks_empties, if_Looks_empties, k_Looks_empties⟩, O_Looks_empties, b_Looks_empties⟩
  have O_Looks_firsts : FnOk l.prog w K mg base (L2.CX l.prog w) 1 f_Looks_firsts _ ["self", "part"] (spO K (R_firsts x_Looks)) := fn_dx (N := ["self", "part"]) (ps := ["self", "part"]) (k := 0) (R := (R_firsts x_Looks)) (T := fun W => T_Looks_firsts K W) F_Looks_firsts sc_Looks_firsts len_firsts (p_Looks_firsts (PySem.W.mg_none_of X G z_sorted)) (fun _ => h_Looks_firsts kk)
  have G_Looks_firsts : MD l.prog w K mg base 1 "firsts" x_Looks (spO K (R_firsts x_Looks)) := ⟨cl_Looks, f_Looks_firsts, _, ["self", "part"], ⟨a_Looks_firsts, if_Looks_firsts, k_Looks_firsts⟩, O_Looks_firsts, b_Looks_firsts⟩
  have O_Looks_numbers : FnOk l.prog w K mg base (L2.CX l.prog w) 1 f_Looks_numbers _ ["self", "part"] (spO K (R_numbers x_Looks)) := fn_dx (N := ["self", "part"]) (ps := ["self", "part"]) (k := 0) (R := (R_numbers x_Looks)) (T := fun W => T_Looks_numbers K W) F_Looks_numbers sc_Looks_numbers len_numbers (p_Looks_numbers (PySem.W.mg_none_of X G z_list)) (fun _ => h_Looks_numbers kk)
  have G_Looks_numbers : MD l.prog w K mg base 1 "numbers" x_Looks (spO K (R_numbers x_Looks)) := ⟨cl_Looks, f_Looks_numbers, _, ["self", "part"], ⟨a_Looks_numbers, if_Looks_numbers, k_Looks_numbers⟩, O_Looks_numbers, b_Looks_numbers⟩
  have O_Looks_parts : FnOk l.prog w K mg base (L2.CX l.prog w) 1 f_Looks_parts _ ["self"] (spO K (R_parts x_Looks)) := fn_dx (N := ["self"]) (ps := ["self"]) (k := 0) (R := (R_parts x_Looks)) (T := fun W => T_Looks_parts K W) F_Looks_parts sc_Looks_parts len_parts (p_Looks_parts (PySem.W.mg_none_of X G z_list)) (fun _ => h_Looks_parts kk)
  have G_Looks_parts : MD l.prog w K mg base 1 "parts" x_Looks (spO K (R_parts x_Looks)) := ⟨cl_Looks, f_Looks_parts, _, ["self"], ⟨a_Looks_parts, if_Looks_parts, k_Looks_parts⟩, O_Looks_parts, b_Looks_parts⟩
  have O_Looks_begins : FnOk l.prog w K mg base (L2.CX l.prog w) 5 f_Looks_begins _ ["self", "row", "ahead"] (spO K (R_begins x_Looks)) := fn_dx (N := ["self", "row", "ahead", "found", "symbol"]) (ps := ["self", "row", "ahead"]) (k := 4) (R := (R_begins x_Looks)) (T := fun W => T_Looks_begins K _ W) F_Looks_begins sc_Looks_begins len_begins (p_Looks_begins (mds_cons (G_Looks_heads_of.mono (by decide)) mds_nil) (PySem.W.mg_none_of X G z_all) (PySem.W.mg_none_of X G z_sorted)) (fun _ => h_Looks_begins kk (.head _))
  have G_Looks_begins : MD l.prog w K mg base 5 "begins" x_Looks (spO K (R_begins x_Looks)) := ⟨cl_Looks, f_Looks_begins, _, ["self", "row", "ahead"], ⟨a_Looks_begins, if_Looks_begins, k_Looks_begins⟩, O_Looks_begins, b_Looks_begins⟩
  have G__law_of_row : GX l.prog w K mg base 2 "_law_of_row" ["_law_firsts_here", "_law_row", "_law_ahead"] (spO K R_of_row) := gx_of (N := ["_law_firsts_here", "_law_row", "_law_ahead", "_law_heads", "_law_symbol", "_law_more", "_law_one"]) (ps := ["_law_firsts_here", "_law_row", "_law_ahead"]) (k := 1) (R := R_of_row) (T := fun W => T__law_of_row K _ W) F__law_of_row (PySem.W.mg_of X G a__law_of_row) b__law_of_row sc__law_of_row len__law_of_row (p__law_of_row (G__law_is_kind.mono (by decide))) (fun _ => h__law_of_row)
  have G__law_firsts : GX l.prog w K mg base 3 "_law_firsts" ["_law_rules_here"] (spO K R_lfirsts) := gx_of (N := ["_law_rules_here", "_law_found", "_law_rule", "_law_changed", "_law_part", "_law_row", "_law_way", "_law_word"]) (ps := ["_law_rules_here"]) (k := 2) (R := R_lfirsts) (T := fun W => T__law_firsts K _ W) F__law_firsts (PySem.W.mg_of X G a__law_firsts) b__law_firsts sc__law_firsts len__law_firsts (p__law_firsts (G__law_of_row.mono (by decide))) (fun _ => h__law_firsts)
  have G__law_right : GD l.prog w K mg base 8 "_law_right" ["_law_rules_here", "_law_script", "_law_k"] (spD K R_right) := gd_of (N := ["_law_rules_here", "_law_script", "_law_k", "_law_handed", "_law_looks", "_law_firsts_here", "_law_parts", "_law_rule", "_law_bare", "_law_part", "_law_numbers", "_law_j", "_law_more", "_law_row", "_law_ahead", "_law_found", "_law_word", "_law_number"]) (ps := ["_law_rules_here", "_law_script", "_law_k"]) (k := 7) (R := R_right) F__law_right (PySem.W.mg_of X G a__law_right) b__law_right sc__law_right len__law_right (p__law_right (G__law_firsts.mono (by decide)) (G__law_cell.mono (by decide)) (G__law_of_row.mono (by decide)) (mds_cons (G_Looks_parts.mono (by decide)) mds_nil) (mds_cons (G_Looks_empties.mono (by decide)) mds_nil) (mds_cons (G_Looks_firsts.mono (by decide)) mds_nil) (mds_cons (G_Looks_numbers.mono (by decide)) mds_nil) (mds_cons (G_Looks_begins.mono (by decide)) mds_nil) G_Looks___init__ (by decide) kp_Looks (PySem.W.mg_none_of X G z_list) (PySem.W.mg_none_of X G z_sorted) (PySem.W.mg_none_of X G z_range) (PySem.W.mg_none_of X G z_len) (PySem.W.mg_none_of X G z_isinstance) (PySem.W.mg_none_of X G z_set)) (h__law_right kk)
  have LF : FnOk l.prog w K mg base CX0 9 _ _ ["_law_script"] (spD K R_law) := fn_d (N := ["_law_script", "_law_k", "_law_rules_here", "_law_handed"]) (ps := ["_law_script"]) (k := 8) (R := R_law) F_law sc_law len_law (p_law (G__law_rules.mono (by decide)) (G__law_right.mono (by decide)) (PySem.W.mg_none_of X G z_range) (PySem.W.mg_none_of X G z_max) (PySem.W.mg_none_of X G z_min) (PySem.W.mg_none_of X G z_len) (PySem.W.mg_none_of X G z_list)) h_law
  exact LF.imp fun vs H Q E q => by
    obtain ⟨a, ns, rfl, hs, hn, q⟩ := q
    exact ⟨H, [.scr ns], .bl true, Evl.Ex.refl _, .cons (.scr hs) .nil, ⟨ns, rfl, hn, rfl⟩, fun v G1 H1 g r => by cases r; exact q _⟩
end K32
open PySem PySem.W PyProof.Rows
set_option maxHeartbeats 0 in
theorem PySem.Challenge.cw_readwright_k32_what_rows_begin_with_holds : PySem.Challenge.rw_readwright_k32_what_rows_begin_with.Holds := by
  w_on; o_law; k_head; (case hw => w_witness2)
  k_fill
  refine L2.walk_of (l := PySem.Challenge.rw_readwright_k32_what_rows_begin_with) (n := 63) (k := 9) (x := "_law_script") (CX := fun _ => L2.CX0) (sp := fun w => K32.spLaw _) rfl (by decide) rfl ⟨rfl, by decide, by decide⟩ (fun w h Y => PySem.W.kIn_of Y) ?F (fun _ _ a ns hl _ hS => ⟨a, ns, rfl, hS, hl, fun _ => rfl⟩) (fun _ _ _ _ _ h => h)
  case F =>
    intro w mg fa h KX G hmg
    refine' K32.all_mk KX G hmg ?n_Looks ?pg_Looks ?hd_Looks ?po_Looks ?sa_Looks ?cc_Looks ?cn ?ct ?mo_Looks ?kp_Looks ?nf_Looks_rules ?nf_Looks_by_part ?nf_Looks_bare ?nf_Looks_heads ?a_is_of ?l_is_of ?c_is_of ?k_is_of ?z_len ?z_all ?a_is_fixed ?l_is_fixed ?c_is_fixed ?k_is_fixed ?n_LETTERS ?n_MOST_LETTERS ?n_SIGNS ?n_MOST_SIGNS ?z_isinstance ?z_str ?a_is_kind ?l_is_kind ?c_is_kind ?k_is_kind ?n_OPEN ?o_OPEN ?a__law_cell ?l__law_cell ?c__law_cell ?k__law_cell ?a__law_kinds ?l__law_kinds ?c__law_kinds ?k__law_kinds ?a__law_begun_rules ?l__law_begun_rules ?c__law_begun_rules ?k__law_begun_rules ?z_range ?z_int ?z_tuple ?a__law_level_rules ?l__law_level_rules ?c__law_level_rules ?k__law_level_rules ?a__law_list_rules ?l__law_list_rules ?c__law_list_rules ?k__law_list_rules ?a__law_any_rules ?l__law_any_rules ?c__law_any_rules ?k__law_any_rules ?z_min ?a__law_rules ?l__law_rules ?c__law_rules ?k__law_rules ?a__law_is_kind ?l__law_is_kind ?c__law_is_kind ?k__law_is_kind ?a_Looks_find_bare ?l_Looks_find_bare ?c_Looks_find_bare ?k_Looks_find_bare ?if_Looks_find_bare ?a_Looks_heads_of ?l_Looks_heads_of ?c_Looks_heads_of ?k_Looks_heads_of ?if_Looks_heads_of ?a_Looks_find_heads ?l_Looks_find_heads ?c_Looks_find_heads ?k_Looks_find_heads ?if_Looks_find_heads ?a_Looks___init__ ?l_Looks___init__ ?c_Looks___init__ ?k_Looks___init__ ?if_Looks___init__ ?mk_Looks ?z_list ?z_enumerate ?a_Looks_empties ?l_Looks_empties ?c_Looks_empties ?k_Looks_empties ?if_Looks_empties ?z_sorted ?a_Looks_firsts ?l_Looks_firsts ?c_Looks_firsts ?k_Looks_firsts ?if_Looks_firsts ?a_Looks_numbers ?l_Looks_numbers ?c_Looks_numbers ?k_Looks_numbers ?if_Looks_numbers ?a_Looks_parts ?l_Looks_parts ?c_Looks_parts ?k_Looks_parts ?if_Looks_parts ?a_Looks_begins ?l_Looks_begins ?c_Looks_begins ?k_Looks_begins ?if_Looks_begins ?a__law_of_row ?l__law_of_row ?c__law_of_row ?k__law_of_row ?a__law_firsts ?l__law_firsts ?c__law_firsts ?k__law_firsts ?a__law_right ?l__law_right ?c__law_right ?k__law_right ?z_set ?a_law ?l_law ?c_law ?k_law ?z_max
    (case n_Looks => first | k_is | k_exc | rfl)
    (case pg_Looks => first | k_is | k_exc | rfl)
    (case hd_Looks => first | k_is | k_exc | rfl)
    (case po_Looks => first | k_is | k_exc | rfl)
    (case sa_Looks => first | k_is | k_exc | rfl)
    (case cc_Looks => first | k_is | k_exc | rfl)
    (case cn => first | k_is | k_exc | rfl)
    (case ct => first | k_is | k_exc | rfl)
    (case mo_Looks => first | k_is | k_exc | rfl)
    (case kp_Looks => first | k_is | k_exc | rfl)
    (case nf_Looks_rules => first | k_is | k_exc | rfl)
    (case nf_Looks_by_part => first | k_is | k_exc | rfl)
    (case nf_Looks_bare => first | k_is | k_exc | rfl)
    (case nf_Looks_heads => first | k_is | k_exc | rfl)
    (case a_is_of => first | k_is | k_exc | rfl)
    (case l_is_of => first | k_is | k_exc | rfl)
    (case c_is_of => first | k_is | k_exc | rfl)
    (case k_is_of => first | k_is | k_exc | rfl)
    (case z_len => first | k_is | k_exc | rfl)
    (case z_all => first | k_is | k_exc | rfl)
    (case a_is_fixed => first | k_is | k_exc | rfl)
    (case l_is_fixed => first | k_is | k_exc | rfl)
    (case c_is_fixed => first | k_is | k_exc | rfl)
    (case k_is_fixed => first | k_is | k_exc | rfl)
    (case n_LETTERS => first | k_is | k_exc | rfl)
    (case n_MOST_LETTERS => first | k_is | k_exc | rfl)
    (case n_SIGNS => first | k_is | k_exc | rfl)
    (case n_MOST_SIGNS => first | k_is | k_exc | rfl)
    (case z_isinstance => first | k_is | k_exc | rfl)
    (case z_str => first | k_is | k_exc | rfl)
    (case a_is_kind => first | k_is | k_exc | rfl)
    (case l_is_kind => first | k_is | k_exc | rfl)
    (case c_is_kind => first | k_is | k_exc | rfl)
    (case k_is_kind => first | k_is | k_exc | rfl)
    (case n_OPEN => first | k_is | k_exc | rfl)
    (case o_OPEN => first | k_is | k_exc | rfl)
    (case a__law_cell => first | k_is | k_exc | rfl)
    (case l__law_cell => first | k_is | k_exc | rfl)
    (case c__law_cell => first | k_is | k_exc | rfl)
    (case k__law_cell => first | k_is | k_exc | rfl)
    (case a__law_kinds => first | k_is | k_exc | rfl)
    (case l__law_kinds => first | k_is | k_exc | rfl)
    (case c__law_kinds => first | k_is | k_exc | rfl)
    (case k__law_kinds => first | k_is | k_exc | rfl)
    (case a__law_begun_rules => first | k_is | k_exc | rfl)
    (case l__law_begun_rules => first | k_is | k_exc | rfl)
    (case c__law_begun_rules => first | k_is | k_exc | rfl)
    (case k__law_begun_rules => first | k_is | k_exc | rfl)
    (case z_range => first | k_is | k_exc | rfl)
    (case z_int => first | k_is | k_exc | rfl)
    (case z_tuple => first | k_is | k_exc | rfl)
    (case a__law_level_rules => first | k_is | k_exc | rfl)
    (case l__law_level_rules => first | k_is | k_exc | rfl)
    (case c__law_level_rules => first | k_is | k_exc | rfl)
    (case k__law_level_rules => first | k_is | k_exc | rfl)
    (case a__law_list_rules => first | k_is | k_exc | rfl)
    (case l__law_list_rules => first | k_is | k_exc | rfl)
    (case c__law_list_rules => first | k_is | k_exc | rfl)
    (case k__law_list_rules => first | k_is | k_exc | rfl)
    (case a__law_any_rules => first | k_is | k_exc | rfl)
    (case l__law_any_rules => first | k_is | k_exc | rfl)
    (case c__law_any_rules => first | k_is | k_exc | rfl)
    (case k__law_any_rules => first | k_is | k_exc | rfl)
    (case z_min => first | k_is | k_exc | rfl)
    (case a__law_rules => first | k_is | k_exc | rfl)
    (case l__law_rules => first | k_is | k_exc | rfl)
    (case c__law_rules => first | k_is | k_exc | rfl)
    (case k__law_rules => first | k_is | k_exc | rfl)
    (case a__law_is_kind => first | k_is | k_exc | rfl)
    (case l__law_is_kind => first | k_is | k_exc | rfl)
    (case c__law_is_kind => first | k_is | k_exc | rfl)
    (case k__law_is_kind => first | k_is | k_exc | rfl)
    (case a_Looks_find_bare => first | k_is | k_exc | rfl)
    (case l_Looks_find_bare => first | k_is | k_exc | rfl)
    (case c_Looks_find_bare => first | k_is | k_exc | rfl)
    (case k_Looks_find_bare => first | k_is | k_exc | rfl)
    (case if_Looks_find_bare => first | k_is | k_exc | rfl)
    (case a_Looks_heads_of => first | k_is | k_exc | rfl)
    (case l_Looks_heads_of => first | k_is | k_exc | rfl)
    (case c_Looks_heads_of => first | k_is | k_exc | rfl)
    (case k_Looks_heads_of => first | k_is | k_exc | rfl)
    (case if_Looks_heads_of => first | k_is | k_exc | rfl)
    (case a_Looks_find_heads => first | k_is | k_exc | rfl)
    (case l_Looks_find_heads => first | k_is | k_exc | rfl)
    (case c_Looks_find_heads => first | k_is | k_exc | rfl)
    (case k_Looks_find_heads => first | k_is | k_exc | rfl)
    (case if_Looks_find_heads => first | k_is | k_exc | rfl)
    (case a_Looks___init__ => first | k_is | k_exc | rfl)
    (case l_Looks___init__ => first | k_is | k_exc | rfl)
    (case c_Looks___init__ => first | k_is | k_exc | rfl)
    (case k_Looks___init__ => first | k_is | k_exc | rfl)
    (case if_Looks___init__ => first | k_is | k_exc | rfl)
    (case mk_Looks => first | k_is | k_exc | rfl)
    (case z_list => first | k_is | k_exc | rfl)
    (case z_enumerate => first | k_is | k_exc | rfl)
    (case a_Looks_empties => first | k_is | k_exc | rfl)
    (case l_Looks_empties => first | k_is | k_exc | rfl)
    (case c_Looks_empties => first | k_is | k_exc | rfl)
    (case k_Looks_empties => first | k_is | k_exc | rfl)
    (case if_Looks_empties => first | k_is | k_exc | rfl)
    (case z_sorted => first | k_is | k_exc | rfl)
    (case a_Looks_firsts => first | k_is | k_exc | rfl)
    (case l_Looks_firsts => first | k_is | k_exc | rfl)
    (case c_Looks_firsts => first | k_is | k_exc | rfl)
    (case k_Looks_firsts => first | k_is | k_exc | rfl)
    (case if_Looks_firsts => first | k_is | k_exc | rfl)
    (case a_Looks_numbers => first | k_is | k_exc | rfl)
    (case l_Looks_numbers => first | k_is | k_exc | rfl)
    (case c_Looks_numbers => first | k_is | k_exc | rfl)
    (case k_Looks_numbers => first | k_is | k_exc | rfl)
    (case if_Looks_numbers => first | k_is | k_exc | rfl)
    (case a_Looks_parts => first | k_is | k_exc | rfl)
    (case l_Looks_parts => first | k_is | k_exc | rfl)
    (case c_Looks_parts => first | k_is | k_exc | rfl)
    (case k_Looks_parts => first | k_is | k_exc | rfl)
    (case if_Looks_parts => first | k_is | k_exc | rfl)
    (case a_Looks_begins => first | k_is | k_exc | rfl)
    (case l_Looks_begins => first | k_is | k_exc | rfl)
    (case c_Looks_begins => first | k_is | k_exc | rfl)
    (case k_Looks_begins => first | k_is | k_exc | rfl)
    (case if_Looks_begins => first | k_is | k_exc | rfl)
    (case a__law_of_row => first | k_is | k_exc | rfl)
    (case l__law_of_row => first | k_is | k_exc | rfl)
    (case c__law_of_row => first | k_is | k_exc | rfl)
    (case k__law_of_row => first | k_is | k_exc | rfl)
    (case a__law_firsts => first | k_is | k_exc | rfl)
    (case l__law_firsts => first | k_is | k_exc | rfl)
    (case c__law_firsts => first | k_is | k_exc | rfl)
    (case k__law_firsts => first | k_is | k_exc | rfl)
    (case a__law_right => first | k_is | k_exc | rfl)
    (case l__law_right => first | k_is | k_exc | rfl)
    (case c__law_right => first | k_is | k_exc | rfl)
    (case k__law_right => first | k_is | k_exc | rfl)
    (case z_set => first | k_is | k_exc | rfl)
    (case a_law => first | k_is | k_exc | rfl)
    (case l_law => first | k_is | k_exc | rfl)
    (case c_law => first | k_is | k_exc | rfl)
    (case k_law => first | k_is | k_exc | rfl)
    (case z_max => first | k_is | k_exc | rfl)
