import PyProof.Rows.All
import Wide.All
import OpenK.AllK
import Wide.FinOn
import HandS.ForMost
import HandS.IsInst
import HandS.Style
import HandS.TupAny
import HandS.TupLe
import HandS.Evl
import HandS.Steps
import HandS.Deep
import HandS.Exc
import HandS.ExcOwn
import HandS.WordsExc
import HandS.ExcInit
import HandS.ExcField
import HandS.ClsMeth
import HandS.CallSlots
import HandS.ExcIs
import HandS.StrMore
import KE.DataMinMax
import HandS.Zip
import PyProof.Rows.RowBridgeK
import KE.DataFind
import PyProof.ExcBaseAll.ValueError
import HandS.Defaults
import HandS.Set
import HandS.TupSets
import HandS.SetKeys
import HandS.SetFor
import KE.SortData
import PySem.Challenge.RW_readwright_k23_grammars_written
set_option Elab.async false
set_option linter.all false
set_option maxRecDepth 100000
/-! A layer over HandS: what a reading yields told by plain data, the heap out of sight. -/
namespace DL
open PySem PySem.Spec PyProof.Rows L2
open Evl (Ex ex_l ex_t fresh_back)

/-! ### a caught exception that is kept: at a, of the class cls, its fields' dict at d -/
def exv (a : Addr) (cls : Value) (d : Option Addr) : HO := .ext fun h => ∃ oe vs, h.get? a = some oe ∧ Zc cls d oe ∧ oe.data = .fields vs
/-! ### data -/
inductive Dat where
  | non | bl (b : Bool) | int (i : Int) | txt (cs : List Nat) | lst (xs : List Dat) | tup (xs : List Dat)
  | ins (C : Addr) (fs : List (Str × Dat)) | dct (kvs : List (Key × Dat)) | scr (ns : List Int) | ty (n : String) | cls (C : Addr) | exc (C : Addr) (fs : List (Str × Dat))

mutual
inductive DR (K : PySem.W.Frag) (H : Hp) : V → Dat → Prop
  | non : DR K H .non .non
  | ty (n : String) : DR K H (.ty n) (.ty n)
  | cls (C : Addr) : DR K H (.ref C) (.cls C)
  | exc0 {a C : Addr} : H a = some (exv a (.ref C) none) → DR K H (.ref a) (.exc C [])
  | exc1 {a C dd : Addr} {fs : List (Str × V)} {gs : List (Str × Dat)} : H a = some (exv a (.ref C) (some dd)) → H dd = some (.xd fs) → DRf K H fs gs → DR K H (.ref a) (.exc C gs)
  | bl (b : Bool) : DR K H (.bl b) (.bl b)
  | int (i : Int) : DR K H (.int i) (.int i)
  | txt (cs : List Nat) : DR K H (.str ⟨cs.toArray⟩) (.txt cs)
  | lst {a : Addr} {xs : List V} {ds : List Dat} : H a = some (.lst xs) → DRs K H xs ds → DR K H (.ref a) (.lst ds)
  | scr {a : Addr} {ns : List Int} : SqL K H a (ns.map V.int) → DR K H (.ref a) (.scr ns)
  | tup {a : Addr} {xs : List V} {ds : List Dat} : SqT K H a xs → DRs K H xs ds → DR K H (.ref a) (.tup ds)
  | ins {a C dx : Addr} {fs : List (Str × V)} {gs : List (Str × Dat)} : H a = some (.ins C dx fs) → DRf K H fs gs → DR K H (.ref a) (.ins C gs)
  | dct {a : Addr} {kvs : List (Key × V)} {es : List (Key × Dat)} : H a = some (.dK kvs) → DRk K H kvs es → DR K H (.ref a) (.dct es)
inductive DRs (K : PySem.W.Frag) (H : Hp) : List V → List Dat → Prop
  | nil : DRs K H [] []
  | cons {v : V} {vs : List V} {d : Dat} {ds : List Dat} : DR K H v d → DRs K H vs ds → DRs K H (v :: vs) (d :: ds)
inductive DRf (K : PySem.W.Frag) (H : Hp) : List (Str × V) → List (Str × Dat) → Prop
  | nil : DRf K H [] []
  | cons {x : Str} {v : V} {vs : List (Str × V)} {d : Dat} {ds : List (Str × Dat)} : DR K H v d → DRf K H vs ds → DRf K H ((x, v) :: vs) ((x, d) :: ds)
inductive DRk (K : PySem.W.Frag) (H : Hp) : List (Key × V) → List (Key × Dat) → Prop
  | nil : DRk K H [] []
  | cons {x : Key} {v : V} {vs : List (Key × V)} {d : Dat} {ds : List (Key × Dat)} : DR K H v d → DRk K H vs ds → DRk K H ((x, v) :: vs) ((x, d) :: ds)
end

section
variable {K : PySem.W.Frag} {H H' : Hp}
mutual
theorem DR.mono (e : Ex H H') : ∀ {v : V} {d : Dat}, DR K H v d → DR K H' v d
  | _, _, .non => .non
  | _, _, .ty n => .ty n
  | _, _, .cls n => .cls n
  | _, _, .exc0 h => .exc0 (e _ _ h)
  | _, _, .exc1 h h2 r => .exc1 (e _ _ h) (e _ _ h2) (DRf.mono e r)
  | _, _, .bl b => .bl b
  | _, _, .int i => .int i
  | _, _, .txt cs => .txt cs
  | _, _, .lst h r => .lst (e _ _ h) (DRs.mono e r)
  | _, _, .scr h => .scr (ex_l e h)
  | _, _, .tup h r => .tup (ex_t e h) (DRs.mono e r)
  | _, _, .ins h r => .ins (e _ _ h) (DRf.mono e r)
  | _, _, .dct h r => .dct (e _ _ h) (DRk.mono e r)
theorem DRs.mono (e : Ex H H') : ∀ {v : List V} {d : List Dat}, DRs K H v d → DRs K H' v d
  | _, _, .nil => .nil
  | _, _, .cons h r => .cons (DR.mono e h) (DRs.mono e r)
theorem DRf.mono (e : Ex H H') : ∀ {v : List (Str × V)} {d : List (Str × Dat)}, DRf K H v d → DRf K H' v d
  | _, _, .nil => .nil
  | _, _, .cons h r => .cons (DR.mono e h) (DRf.mono e r)
theorem DRk.mono (e : Ex H H') : ∀ {v : List (Key × V)} {d : List (Key × Dat)}, DRk K H v d → DRk K H' v d
  | _, _, .nil => .nil
  | _, _, .cons h r => .cons (DR.mono e h) (DRk.mono e r)
end
theorem DRs.length : ∀ {vs : List V} {ds : List Dat}, DRs K H vs ds → vs.length = ds.length
  | _, _, .nil => rfl
  | _, _, .cons _ r => by rw [List.length_cons, List.length_cons, DRs.length r]
theorem DRs.get : ∀ {vs : List V} {ds : List Dat} {i : Nat} {v : V}, DRs K H vs ds → vs[i]? = some v → ∃ d, ds[i]? = some d ∧ DR K H v d
  | _, _, _, _, .nil, e => by simp at e
  | _, _, 0, _, .cons h _, e => by simp at e; subst e; exact ⟨_, rfl, h⟩
  | _, _, i + 1, v, .cons _ r, e => by
    obtain ⟨d, h1, h2⟩ := DRs.get (i := i) (v := v) r (by simpa using e)
    exact ⟨d, by simpa using h1, h2⟩
theorem DRs.at : ∀ {vs : List V} {ds : List Dat} {i : Nat} {d : Dat}, DRs K H vs ds → ds[i]? = some d → ∃ v, vs[i]? = some v ∧ DR K H v d
  | _, _, _, _, .nil, e => by simp at e
  | _, _, 0, _, .cons h _, e => by simp at e; subst e; exact ⟨_, rfl, h⟩
  | _, _, i + 1, v, .cons _ r, e => by
    obtain ⟨d, h1, h2⟩ := DRs.at (i := i) (d := v) r (by simpa using e)
    exact ⟨d, by simpa using h1, h2⟩
theorem DRs.append : ∀ {vs ws : List V} {ds es : List Dat}, DRs K H vs ds → DRs K H ws es → DRs K H (vs ++ ws) (ds ++ es)
  | _, _, _, _, .nil, s => s
  | _, _, _, _, .cons h r, s => .cons h (DRs.append r s)
theorem DRs.take : ∀ {vs : List V} {ds : List Dat} (n : Nat), DRs K H vs ds → DRs K H (vs.take n) (ds.take n)
  | _, _, 0, _ => .nil
  | _, _, _ + 1, .nil => .nil
  | _, _, n + 1, .cons h r => .cons h (DRs.take n r)
theorem DRs.drop : ∀ {vs : List V} {ds : List Dat} (n : Nat), DRs K H vs ds → DRs K H (vs.drop n) (ds.drop n)
  | _, _, 0, r => r
  | _, _, _ + 1, .nil => .nil
  | _, _, n + 1, .cons _ r => DRs.drop n r
theorem DRf.lookup : ∀ {fs : List (Str × V)} {gs : List (Str × Dat)} {f : Str} {d : Dat}, DRf K H fs gs → gs.lookup f = some d → ∃ v, fs.lookup f = some v ∧ DR K H v d
  | _, _, _, _, .nil, e => by simp at e
  | _, _, f, d, @DRf.cons _ _ x v vs d' ds h r, e => by
    rw [List.lookup_cons] at e ⊢
    cases q : (f == x) with
    | true => rw [q] at e; cases e; exact ⟨v, rfl, h⟩
    | false => rw [q] at e; exact DRf.lookup (f := f) (d := d) r e
theorem DRf.none : ∀ {fs : List (Str × V)} {gs : List (Str × Dat)} {f : Str}, DRf K H fs gs → gs.lookup f = none → fs.lookup f = none
  | _, _, _, .nil, e => rfl
  | _, _, f, @DRf.cons _ _ x v vs d' ds h r, e => by
    rw [List.lookup_cons] at e ⊢
    cases q : (f == x) with
    | true => rw [q] at e; cases e
    | false => rw [q] at e; exact DRf.none (f := f) r e
/-- lists of numbers, of truths, of texts -/
theorem DRs.ints : ∀ {vs : List V} {ns : List Int}, DRs K H vs (ns.map .int) → vs = ns.map V.int
  | _, [], .nil => rfl
  | _, n :: ns, .cons (.int _) r => by rw [DRs.ints r]; rfl
theorem DRs.bls : ∀ {vs : List V} {ns : List Bool}, DRs K H vs (ns.map .bl) → vs = ns.map V.bl
  | _, [], .nil => rfl
  | _, n :: ns, .cons (.bl _) r => by rw [DRs.bls r]; rfl
def strL (cs : List Nat) : Str := ⟨cs.toArray⟩
theorem DRs.txts : ∀ {vs : List V} {ns : List (List Nat)}, DRs K H vs (ns.map .txt) → vs = (ns.map strL).map V.str
  | _, [], .nil => rfl
  | _, n :: ns, .cons (.txt _) r => by rw [DRs.txts r]; rfl
theorem DRs.ofInts : ∀ (ns : List Int), DRs K H (ns.map V.int) (ns.map .int)
  | [] => .nil
  | n :: ns => .cons (.int n) (DRs.ofInts ns)
theorem DRs.ofTxts : ∀ (ns : List (List Nat)), DRs K H ((ns.map strL).map V.str) (ns.map .txt)
  | [] => .nil
  | n :: ns => .cons (.txt n) (DRs.ofTxts ns)
theorem DR.ofStr (x : Str) : DR K H (.str x) (.txt x.cps.toList) := by
  have h : DR K H (.str ⟨x.cps.toList.toArray⟩) (.txt x.cps.toList) := .txt _
  rw [Array.toArray_toList] at h
  exact h
end
theorem strL_len (cs : List Nat) : (strL cs).length = cs.length := by simp [strL, Str.length]
theorem strL_cps (cs : List Nat) : (strL cs).cps.toList = cs := by simp [strL]
theorem strL_app (a b : List Nat) : strL a ++ strL b = strL (a ++ b) := by
  show (⟨a.toArray ++ b.toArray⟩ : Str) = ⟨(a ++ b).toArray⟩
  rw [List.append_toArray]
theorem strL_inj {a b : List Nat} (h : strL a = strL b) : a = b := by
  have := congrArg (fun s => s.cps.toList) h
  simpa [strL] using this

/-! ### the frozen part G of a heap H grows; what H has besides stays -/
structure Grow (G H G' H' : Hp) : Prop where
  g : Ex G G'
  s : Ex G' H'
  h : Ex H H'
  m : ∀ a, G a = none → H a ≠ none → G' a = none
theorem Grow.refl {G H : Hp} (e : Ex G H) : Grow G H G H := ⟨Evl.Ex.refl _, e, Evl.Ex.refl _, fun _ h _ => h⟩
theorem ex_some_ne {H H' : Hp} (e : Ex H H') {a : Addr} (h : H a ≠ none) : H' a ≠ none := by
  cases q : H a with
  | none => exact absurd q h
  | some o => rw [e a o q]; simp
theorem Grow.trans {G H G1 H1 G2 H2 : Hp} (a : Grow G H G1 H1) (b : Grow G1 H1 G2 H2) : Grow G H G2 H2 :=
  ⟨a.g.trans b.g, b.s, a.h.trans b.h, fun c h1 h2 => b.m c (a.m c h1 h2) (ex_some_ne a.h h2)⟩
theorem ex_upd2 {G H : Hp} {p : Addr} {o : HO} (e : Ex G H) : Ex (upd G p o) (upd H p o) := fun a u h => by
  by_cases q : a = p
  · subst q; rw [upd_same] at h ⊢; exact h
  · rw [upd_ne q] at h ⊢; exact e a u h
theorem Grow.new {G H : Hp} {p : Addr} {o : HO} (e : Ex G H) (hp : H p = none) : Grow G H (upd G p o) (upd H p o) := by
  have gp : G p = none := fresh_back e hp
  refine ⟨Evl.Ex.new gp, ex_upd2 e, Evl.Ex.new hp, fun a h1 h2 => ?_⟩
  have q : a ≠ p := fun z => by subst z; exact h2 hp
  rw [upd_ne q]; exact h1
/-- an object that is not frozen may be new -/
theorem Grow.newM {G H : Hp} {p : Addr} {o : HO} (e : Ex G H) (hp : H p = none) : Grow G H G (upd H p o) := by
  refine ⟨Evl.Ex.refl _, fun a u h => ?_, Evl.Ex.new hp, fun a h1 h2 => h1⟩
  exact Evl.Ex.new hp a u (e a u h)

/-! ### what one owns: a tree of objects that may be changed; its leaves are frozen data -/
inductive OD where
  | dat (d : Dat) | pl (ds : List Dat) | pd (kvs : List (Key × Dat)) | ins (C : Addr) (fs : List (Str × OD)) | lst (os : List OD) | tup (os : List OD) | dct (kvs : List (Key × OD)) | me (a : Addr) (o : OD)
mutual
def frz : OD → Dat
  | .dat d => d
  | .pl ds => .lst ds
  | .pd kvs => .dct kvs
  | .ins C fs => .ins C (frzf fs)
  | .lst os => .lst (frzs os)
  | .tup os => .tup (frzs os)
  | .dct kvs => .dct (frzk kvs)
  | .me _ o => frz o
def frzs : List OD → List Dat
  | [] => []
  | o :: r => frz o :: frzs r
def frzf : List (Str × OD) → List (Str × Dat)
  | [] => []
  | (x, o) :: r => (x, frz o) :: frzf r
def frzk : List (Key × OD) → List (Key × Dat)
  | [] => []
  | (x, o) :: r => (x, frz o) :: frzk r
end
mutual
inductive OR (K : PySem.W.Frag) (G H : Hp) : V → OD → List Addr → Prop
  | dat {v : V} {d : Dat} : DR K G v d → OR K G H v (.dat d) []
  | pl {a : Addr} {xs : List V} {ds : List Dat} : H a = some (.lst xs) → DRs K G xs ds → OR K G H (.ref a) (.pl ds) [a]
  | pd {a : Addr} {kvs : List (Key × V)} {es : List (Key × Dat)} : H a = some (.dK kvs) → DRk K G kvs es → OR K G H (.ref a) (.pd es) [a]
  | ins {a C dx : Addr} {fs : List (Str × V)} {gs : List (Str × OD)} {S : List Addr} : H a = some (.ins C dx fs) → ORf K G H fs gs S → a ∉ S → OR K G H (.ref a) (.ins C gs) (a :: S)
  | lst {a : Addr} {xs : List V} {os : List OD} {S : List Addr} : H a = some (.lst xs) → ORs K G H xs os S → a ∉ S → OR K G H (.ref a) (.lst os) (a :: S)
  | tup {a : Addr} {xs : List V} {os : List OD} {S : List Addr} : H a = some (.tup xs) → ORs K G H xs os S → a ∉ S → OR K G H (.ref a) (.tup os) (a :: S)
  | dct {a : Addr} {kvs : List (Key × V)} {es : List (Key × OD)} {S : List Addr} : H a = some (.dK kvs) → ORk K G H kvs es S → a ∉ S → OR K G H (.ref a) (.dct es) (a :: S)
  | me {a : Addr} {o : OD} {S : List Addr} : OR K G H (.ref a) o S → OR K G H (.ref a) (.me a o) S
inductive ORs (K : PySem.W.Frag) (G H : Hp) : List V → List OD → List Addr → Prop
  | nil : ORs K G H [] [] []
  | cons {v : V} {vs : List V} {o : OD} {os : List OD} {S T : List Addr} : OR K G H v o S → ORs K G H vs os T → (∀ a ∈ S, a ∉ T) → ORs K G H (v :: vs) (o :: os) (S ++ T)
inductive ORf (K : PySem.W.Frag) (G H : Hp) : List (Str × V) → List (Str × OD) → List Addr → Prop
  | nil : ORf K G H [] [] []
  | cons {x : Str} {v : V} {vs : List (Str × V)} {o : OD} {os : List (Str × OD)} {S T : List Addr} : OR K G H v o S → ORf K G H vs os T → (∀ a ∈ S, a ∉ T) → ORf K G H ((x, v) :: vs) ((x, o) :: os) (S ++ T)
inductive ORk (K : PySem.W.Frag) (G H : Hp) : List (Key × V) → List (Key × OD) → List Addr → Prop
  | nil : ORk K G H [] [] []
  | cons {x : Key} {v : V} {vs : List (Key × V)} {o : OD} {os : List (Key × OD)} {S T : List Addr} : OR K G H v o S → ORk K G H vs os T → (∀ a ∈ S, a ∉ T) → ORk K G H ((x, v) :: vs) ((x, o) :: os) (S ++ T)
end
section
variable {K : PySem.W.Frag} {G H G' H' : Hp}
mutual
/-- what one owns stays where its own objects stay -/
theorem OR.keep (e : Ex G G') : ∀ {v : V} {o : OD} {S : List Addr}, OR K G H v o S → (∀ a ∈ S, ∀ u, H a = some u → H' a = some u) → OR K G' H' v o S
  | _, _, _, .dat r, _ => .dat (r.mono e)
  | _, _, _, .pl h r, k => .pl (k _ List.mem_cons_self _ h) (r.mono e)
  | _, _, _, .pd h r, k => .pd (k _ List.mem_cons_self _ h) (r.mono e)
  | _, _, _, .ins h r n, k => .ins (k _ List.mem_cons_self _ h) (ORf.keep e r fun a ha => k a (List.mem_cons_of_mem _ ha)) n
  | _, _, _, .lst h r n, k => .lst (k _ List.mem_cons_self _ h) (ORs.keep e r fun a ha => k a (List.mem_cons_of_mem _ ha)) n
  | _, _, _, .tup h r n, k => .tup (k _ List.mem_cons_self _ h) (ORs.keep e r fun a ha => k a (List.mem_cons_of_mem _ ha)) n
  | _, _, _, .dct h r n, k => .dct (k _ List.mem_cons_self _ h) (ORk.keep e r fun a ha => k a (List.mem_cons_of_mem _ ha)) n
  | _, _, _, .me r, k => .me (OR.keep e r k)
theorem ORs.keep (e : Ex G G') : ∀ {v : List V} {o : List OD} {S : List Addr}, ORs K G H v o S → (∀ a ∈ S, ∀ u, H a = some u → H' a = some u) → ORs K G' H' v o S
  | _, _, _, .nil, _ => .nil
  | _, _, _, .cons h r n, k => .cons (OR.keep e h fun a ha => k a (List.mem_append_left _ ha)) (ORs.keep e r fun a ha => k a (List.mem_append_right _ ha)) n
theorem ORf.keep (e : Ex G G') : ∀ {v : List (Str × V)} {o : List (Str × OD)} {S : List Addr}, ORf K G H v o S → (∀ a ∈ S, ∀ u, H a = some u → H' a = some u) → ORf K G' H' v o S
  | _, _, _, .nil, _ => .nil
  | _, _, _, .cons h r n, k => .cons (OR.keep e h fun a ha => k a (List.mem_append_left _ ha)) (ORf.keep e r fun a ha => k a (List.mem_append_right _ ha)) n
theorem ORk.keep (e : Ex G G') : ∀ {v : List (Key × V)} {o : List (Key × OD)} {S : List Addr}, ORk K G H v o S → (∀ a ∈ S, ∀ u, H a = some u → H' a = some u) → ORk K G' H' v o S
  | _, _, _, .nil, _ => .nil
  | _, _, _, .cons h r n, k => .cons (OR.keep e h fun a ha => k a (List.mem_append_left _ ha)) (ORk.keep e r fun a ha => k a (List.mem_append_right _ ha)) n
end
theorem ne_of_some {a : Addr} {u : HO} (h : H a = some u) : H a ≠ none := by rw [h]; simp
mutual
theorem OR.there : ∀ {v : V} {o : OD} {S : List Addr}, OR K G H v o S → ∀ a ∈ S, H a ≠ none
  | _, _, _, .dat r, a, h => by cases h
  | _, _, _, .pl h r, a, ha => by rcases List.mem_cons.mp ha with e | e; · rw [e]; exact ne_of_some h
                                  · cases e
  | _, _, _, .pd h r, a, ha => by rcases List.mem_cons.mp ha with e | e; · rw [e]; exact ne_of_some h
                                  · cases e
  | _, _, _, .ins h r _, a, ha => by rcases List.mem_cons.mp ha with e | e; · rw [e]; exact ne_of_some h
                                     · exact ORf.there r a e
  | _, _, _, .lst h r _, a, ha => by rcases List.mem_cons.mp ha with e | e; · rw [e]; exact ne_of_some h
                                     · exact ORs.there r a e
  | _, _, _, .tup h r _, a, ha => by rcases List.mem_cons.mp ha with e | e; · rw [e]; exact ne_of_some h
                                     · exact ORs.there r a e
  | _, _, _, .dct h r _, a, ha => by rcases List.mem_cons.mp ha with e | e; · rw [e]; exact ne_of_some h
                                     · exact ORk.there r a e
  | _, _, _, .me r, a, ha => OR.there r a ha
theorem ORs.there : ∀ {v : List V} {o : List OD} {S : List Addr}, ORs K G H v o S → ∀ a ∈ S, H a ≠ none
  | _, _, _, .nil, a, h => by cases h
  | _, _, _, .cons h r n, a, ha => by rcases List.mem_append.mp ha with e | e; · exact OR.there h a e
                                      · exact ORs.there r a e
theorem ORf.there : ∀ {v : List (Str × V)} {o : List (Str × OD)} {S : List Addr}, ORf K G H v o S → ∀ a ∈ S, H a ≠ none
  | _, _, _, .nil, a, h => by cases h
  | _, _, _, .cons h r n, a, ha => by rcases List.mem_append.mp ha with e | e; · exact OR.there h a e
                                      · exact ORf.there r a e
theorem ORk.there : ∀ {v : List (Key × V)} {o : List (Key × OD)} {S : List Addr}, ORk K G H v o S → ∀ a ∈ S, H a ≠ none
  | _, _, _, .nil, a, h => by cases h
  | _, _, _, .cons h r n, a, ha => by rcases List.mem_append.mp ha with e | e; · exact OR.there h a e
                                      · exact ORk.there r a e
end
mutual
/-- what one owns is frozen -/
theorem OR.frz (e : Ex G G') : ∀ {v : V} {o : OD} {S : List Addr}, OR K G H v o S → (∀ a ∈ S, ∀ u, H a = some u → G' a = some u) → DR K G' v (frz o)
  | _, _, _, .dat r, _ => r.mono e
  | _, _, _, .pl h r, k => .lst (k _ List.mem_cons_self _ h) (r.mono e)
  | _, _, _, .pd h r, k => .dct (k _ List.mem_cons_self _ h) (r.mono e)
  | _, _, _, .ins h r n, k => .ins (k _ List.mem_cons_self _ h) (ORf.frz e r fun a ha => k a (List.mem_cons_of_mem _ ha))
  | _, _, _, .lst h r n, k => .lst (k _ List.mem_cons_self _ h) (ORs.frz e r fun a ha => k a (List.mem_cons_of_mem _ ha))
  | _, _, _, .tup h r n, k => .tup (.inl (.inl (k _ List.mem_cons_self _ h))) (ORs.frz e r fun a ha => k a (List.mem_cons_of_mem _ ha))
  | _, _, _, .dct h r n, k => .dct (k _ List.mem_cons_self _ h) (ORk.frz e r fun a ha => k a (List.mem_cons_of_mem _ ha))
  | _, .me _ o, _, .me r, k => OR.frz (o := o) e r k
theorem ORs.frz (e : Ex G G') : ∀ {v : List V} {o : List OD} {S : List Addr}, ORs K G H v o S → (∀ a ∈ S, ∀ u, H a = some u → G' a = some u) → DRs K G' v (frzs o)
  | _, _, _, .nil, _ => .nil
  | _, _, _, .cons h r n, k => .cons (OR.frz e h fun a ha => k a (List.mem_append_left _ ha)) (ORs.frz e r fun a ha => k a (List.mem_append_right _ ha))
theorem ORf.frz (e : Ex G G') : ∀ {v : List (Str × V)} {o : List (Str × OD)} {S : List Addr}, ORf K G H v o S → (∀ a ∈ S, ∀ u, H a = some u → G' a = some u) → DRf K G' v (frzf o)
  | _, _, _, .nil, _ => .nil
  | _, _, _, .cons h r n, k => .cons (OR.frz e h fun a ha => k a (List.mem_append_left _ ha)) (ORf.frz e r fun a ha => k a (List.mem_append_right _ ha))
theorem ORk.frz (e : Ex G G') : ∀ {v : List (Key × V)} {o : List (Key × OD)} {S : List Addr}, ORk K G H v o S → (∀ a ∈ S, ∀ u, H a = some u → G' a = some u) → DRk K G' v (frzk o)
  | _, _, _, .nil, _ => .nil
  | _, _, _, .cons h r n, k => .cons (OR.frz e h fun a ha => k a (List.mem_append_left _ ha)) (ORk.frz e r fun a ha => k a (List.mem_append_right _ ha))
end
end
/-- what is owned at S is changed: it is at S' then; all else stays -/
structure Chg (G H : Hp) (S : List Addr) (G' H' : Hp) (S' : List Addr) : Prop where
  g : Ex G G'
  s : Ex G' H'
  k : ∀ a u, a ∉ S → H a = some u → H' a = some u
  m : ∀ a, G a = none → H a ≠ none → a ∉ S → G' a = none
  n : ∀ a ∈ S', (a ∈ S ∨ H a = none) ∧ G' a = none
theorem Chg.refl {G H : Hp} {S : List Addr} (e : Ex G H) (h : ∀ a ∈ S, G a = none) : Chg G H S G H S := ⟨Evl.Ex.refl _, e, fun _ _ _ h => h, fun _ h _ _ => h, fun a ha => ⟨.inl ha, h a ha⟩⟩
theorem Chg.of {G H G' H' : Hp} {S : List Addr} (g : Grow G H G' H') (h : ∀ a ∈ S, G a = none ∧ H a ≠ none) : Chg G H S G' H' S := ⟨g.g, g.s, fun a u _ h => g.h a u h, fun a h1 h2 _ => g.m a h1 h2, fun a ha => ⟨.inl ha, g.m a (h a ha).1 (h a ha).2⟩⟩
theorem Chg.trans {G H G1 H1 G2 H2 : Hp} {S S1 S2 : List Addr} (a : Chg G H S G1 H1 S1) (b : Chg G1 H1 S1 G2 H2 S2) (h0 : ∀ x ∈ S1, H1 x ≠ none) : Chg G H S G2 H2 S2 := by
  have out : ∀ x, x ∉ S → H x ≠ none → x ∉ S1 := fun x hx hh h1 => by
    rcases (a.n x h1).1 with z | z
    · exact hx z
    · exact hh z
  refine ⟨a.g.trans b.g, b.s, fun x u hx hu => b.k x u (out x hx (by rw [hu]; simp)) (a.k x u hx hu), fun x h1 h2 h3 => ?_, fun x hx => ?_⟩
  · have h4 : H1 x ≠ none := by
      cases q : H x with
      | none => exact absurd q h2
      | some u => rw [a.k x u h3 q]; simp
    exact b.m x (a.m x h1 h2 h3) h4 (out x h3 h2)
  · refine ⟨?_, (b.n x hx).2⟩
    rcases (b.n x hx).1 with z | z
    · exact (a.n x z).1
    · by_cases q : x ∈ S
      · exact .inl q
      · refine .inr ?_
        cases w : H x with
        | none => rfl
        | some u => rw [a.k x u q w] at z; cases z
/-! ### slots -/
inductive Sl where
  | no | dat (d : Dat) | mt (o : OD)
abbrev Sl.own (ds : List Dat) : Sl := .mt (.pl ds)
structure Sat (K : PySem.W.Frag) (G0 B0 : Hp) (ρ : List Sl) (σ : L2.St) (G H : Hp) : Prop where
  gr : Grow G0 B0 G H
  len : σ.length = ρ.length
  dat : ∀ (i : Nat) d, ρ[i]? = some (.dat d) → ∃ v, σ[i]? = some (some v) ∧ DR K G v d
  fp : ∃ F : Nat → List Addr, (∀ (i : Nat) o, ρ[i]? = some (.mt o) → ∃ v, σ[i]? = some (some v) ∧ OR K G H v o (F i) ∧ ∀ a ∈ F i, G a = none ∧ B0 a = none) ∧
    (∀ (i j : Nat) o o', i ≠ j → ρ[i]? = some (.mt o) → ρ[j]? = some (.mt o') → ∀ a ∈ F i, a ∉ F j)

section
variable {K : PySem.W.Frag} {G0 B0 G H G' H' : Hp} {ρ : List Sl} {σ : L2.St}
theorem Sat.own (S : Sat K G0 B0 ρ σ G H) (i : Nat) (ds : List Dat) (h : ρ[i]? = some (.own ds)) : ∃ p vs, σ[i]? = some (some (.ref p)) ∧ G p = none ∧ B0 p = none ∧ H p = some (.lst vs) ∧ DRs K G vs ds := by
  obtain ⟨F, f1, f2⟩ := S.fp
  obtain ⟨v, h1, h2, h3⟩ := f1 i _ h
  generalize F i = T at h2 h3
  cases h2 with
  | pl k1 k2 => exact ⟨_, _, h1, (h3 _ List.mem_cons_self).1, (h3 _ List.mem_cons_self).2, k1, k2⟩
theorem Sat.grow (S : Sat K G0 B0 ρ σ G H) (g : Grow G H G' H') : Sat K G0 B0 ρ σ G' H' := by
  obtain ⟨F, f1, f2⟩ := S.fp
  refine ⟨S.gr.trans g, S.len, fun i d h => ?_, F, fun i o h => ?_, f2⟩
  · obtain ⟨v, h1, h2⟩ := S.dat i d h
    exact ⟨v, h1, h2.mono g.g⟩
  · obtain ⟨v, h1, h2, h3⟩ := f1 i o h
    exact ⟨v, h1, h2.keep g.g fun a _ u hu => g.h a u hu, fun a ha => ⟨g.m a (h3 a ha).1 (h2.there a ha), (h3 a ha).2⟩⟩
theorem set_cases {i j : Nat} {s t : Sl} (h : (ρ.set i s)[j]? = some t) : (i = j ∧ t = s ∧ i < ρ.length) ∨ (i ≠ j ∧ ρ[j]? = some t) := by
  by_cases q : i = j
  · subst q
    rw [List.getElem?_set_self'] at h
    cases z : ρ[i]? with
    | none => rw [z] at h; simp at h
    | some w => rw [z] at h; simp at h; exact .inl ⟨rfl, h.symm, (List.getElem?_eq_some_iff.mp z).1⟩
  · rw [List.getElem?_set_ne q] at h
    exact .inr ⟨q, h⟩
theorem set_at {i : Nat} {o : Option V} (hl : i < σ.length) : (σ.set i o)[i]? = some o := by rw [List.getElem?_set_self hl]
/-- a slot is given a datum -/
theorem Sat.set (S : Sat K G0 B0 ρ σ G H) {i : Nat} {v : V} {d : Dat} (r : DR K G v d) : Sat K G0 B0 (ρ.set i (.dat d)) (σ.set i (some v)) G H := by
  obtain ⟨F, f1, f2⟩ := S.fp
  refine ⟨S.gr, by rw [List.length_set, List.length_set]; exact S.len, fun j e h => ?_, F, fun j o h => ?_, fun j k o o' n h1 h2 => ?_⟩
  · rcases set_cases h with ⟨rfl, z, hl⟩ | ⟨q, h⟩
    · cases z
      exact ⟨v, set_at (by rw [S.len]; exact hl), r⟩
    · rw [List.getElem?_set_ne q]; exact S.dat j e h
  · rcases set_cases h with ⟨rfl, z, hl⟩ | ⟨q, h⟩
    · cases z
    · rw [List.getElem?_set_ne q]; exact f1 j o h
  · rcases set_cases h1 with ⟨rfl, z, hl⟩ | ⟨q, h1⟩
    · cases z
    · rcases set_cases h2 with ⟨rfl, z, hl⟩ | ⟨q, h2⟩
      · cases z
      · exact f2 j k o o' n h1 h2
/-- a slot is forgotten -/
theorem Sat.forget (S : Sat K G0 B0 ρ σ G H) {i : Nat} {o : Option V} : Sat K G0 B0 (ρ.set i .no) (σ.set i o) G H := by
  obtain ⟨F, f1, f2⟩ := S.fp
  refine ⟨S.gr, by rw [List.length_set, List.length_set]; exact S.len, fun j e h => ?_, F, fun j o h => ?_, fun j k o o' n h1 h2 => ?_⟩
  · rcases set_cases h with ⟨rfl, z, hl⟩ | ⟨q, h⟩
    · cases z
    · rw [List.getElem?_set_ne q]; exact S.dat j e h
  · rcases set_cases h with ⟨rfl, z, hl⟩ | ⟨q, h⟩
    · cases z
    · rw [List.getElem?_set_ne q]; exact f1 j o h
  · rcases set_cases h1 with ⟨rfl, z, hl⟩ | ⟨q, h1⟩
    · cases z
    · rcases set_cases h2 with ⟨rfl, z, hl⟩ | ⟨q, h2⟩
      · cases z
      · exact f2 j k o o' n h1 h2
def updF (F : Nat → List Addr) (i : Nat) (T : List Addr) (j : Nat) : List Addr := if j = i then T else F j
theorem updF_same {F : Nat → List Addr} {i : Nat} {T : List Addr} : updF F i T i = T := if_pos rfl
theorem updF_ne {F : Nat → List Addr} {i j : Nat} {T : List Addr} (q : i ≠ j) : updF F i T j = F j := if_neg fun z => q z.symm
/-- a slot is given a new thing of one's own -/
theorem Sat.newMut (S : Sat K G0 B0 ρ σ G H) (g : Grow G H G' H') {i : Nat} {v : V} {o : OD} {T : List Addr} (r : OR K G' H' v o T) (hT : ∀ a ∈ T, H a = none ∧ G' a = none) : Sat K G0 B0 (ρ.set i (.mt o)) (σ.set i (some v)) G' H' := by
  have S1 := S.grow g
  obtain ⟨F, f1, f2⟩ := S.fp
  refine ⟨S1.gr, by rw [List.length_set, List.length_set]; exact S.len, fun j e h => ?_, updF F i T, fun j o' h => ?_, fun j k o1 o2 n h1 h2 => ?_⟩
  · rcases set_cases h with ⟨rfl, z, hl⟩ | ⟨q, h⟩
    · cases z
    · rw [List.getElem?_set_ne q]; exact S1.dat j e h
  · rcases set_cases h with ⟨rfl, z, hl⟩ | ⟨q, h⟩
    · cases z
      refine ⟨v, set_at (by rw [S.len]; exact hl), ?_⟩
      rw [updF_same]
      exact ⟨r, fun a ha => ⟨(hT a ha).2, fresh_back S.gr.h (hT a ha).1⟩⟩
    · rw [List.getElem?_set_ne q, updF_ne q]
      obtain ⟨w, h1, h2, h3⟩ := f1 j o' h
      exact ⟨w, h1, h2.keep g.g fun a _ u hu => g.h a u hu, fun a ha => ⟨g.m a (h3 a ha).1 (h2.there a ha), (h3 a ha).2⟩⟩
  · rcases set_cases h1 with ⟨rfl, z, hl⟩ | ⟨q, h1⟩
    · rcases set_cases h2 with ⟨rfl, z2, hl2⟩ | ⟨q2, h2⟩
      · exact absurd rfl n
      · intro a ha
        rw [updF_same] at ha
        rw [updF_ne q2]
        obtain ⟨w, k1, k2, k3⟩ := f1 k o2 h2
        exact fun hb => k2.there a hb (hT a ha).1
    · rcases set_cases h2 with ⟨rfl, z2, hl2⟩ | ⟨q2, h2⟩
      · intro a ha
        rw [updF_ne q] at ha
        rw [updF_same]
        obtain ⟨w, k1, k2, k3⟩ := f1 j o1 h1
        exact fun hb => k2.there a ha (hT a hb).1
      · intro a ha
        rw [updF_ne q] at ha
        rw [updF_ne q2]
        exact f2 j k o1 o2 n h1 h2 a ha
/-- what is owned in a slot -/
theorem Sat.at (S : Sat K G0 B0 ρ σ G H) {i : Nat} {o : OD} (h : ρ[i]? = some (.mt o)) : ∃ v T, σ[i]? = some (some v) ∧ OR K G H v o T ∧ (∀ a ∈ T, G a = none ∧ B0 a = none) ∧
    ∀ o' G' H' T', Chg G H T G' H' T' → OR K G' H' v o' T' → Sat K G0 B0 (ρ.set i (.mt o')) σ G' H' := by
  obtain ⟨F, f1, f2⟩ := S.fp
  obtain ⟨v, h1, h2, h3⟩ := f1 i o h
  refine ⟨v, F i, h1, h2, h3, fun o' G' H' T' c r => ?_⟩
  have hi : i < ρ.length := (List.getElem?_eq_some_iff.mp h).1
  have keep : ∀ j o2, i ≠ j → ρ[j]? = some (.mt o2) → ∀ a ∈ F j, a ∉ F i := fun j o2 n hj a ha hb => f2 i j o o2 n h hj a hb ha
  refine ⟨⟨S.gr.g.trans c.g, c.s, fun a u hu => c.k a u (fun ha => ?_) (S.gr.h a u hu), fun a k1 k2 => ?_⟩, by rw [List.length_set]; exact S.len, fun j e hj => ?_, updF F i T', fun j o2 hj => ?_, fun j k o1 o2 n g1 g2 => ?_⟩
  · rw [(h3 a ha).2] at hu; cases hu
  · refine c.m a (S.gr.m a k1 k2) (ex_some_ne S.gr.h k2) fun ha => k2 (h3 a ha).2
  · rcases set_cases hj with ⟨rfl, z, hl⟩ | ⟨q, hj⟩
    · cases z
    · obtain ⟨w, k1, k2⟩ := S.dat j e hj
      exact ⟨w, k1, k2.mono c.g⟩
  · rcases set_cases hj with ⟨rfl, z, hl⟩ | ⟨q, hj⟩
    · cases z
      refine ⟨v, h1, ?_⟩
      rw [updF_same]
      refine ⟨r, fun a ha => ⟨(c.n a ha).2, ?_⟩⟩
      rcases (c.n a ha).1 with z | z
      · exact (h3 a z).2
      · exact fresh_back S.gr.h z
    · obtain ⟨w, k1, k2, k3⟩ := f1 j o2 hj
      rw [updF_ne q]
      exact ⟨w, k1, k2.keep c.g fun a ha u hu => c.k a u (keep j o2 q hj a ha) hu, fun a ha => ⟨c.m a (k3 a ha).1 (k2.there a ha) (keep j o2 q hj a ha), (k3 a ha).2⟩⟩
  · rcases set_cases g1 with ⟨rfl, z, hl⟩ | ⟨q, g1⟩
    · rcases set_cases g2 with ⟨rfl, z2, hl2⟩ | ⟨q2, g2⟩
      · exact absurd rfl n
      · intro a ha
        rw [updF_same] at ha
        rw [updF_ne q2]
        intro hb
        rcases (c.n a ha).1 with z | z
        · exact keep k o2 q2 g2 a hb z
        · obtain ⟨w, k1, k2, k3⟩ := f1 k o2 g2
          exact k2.there a hb z
    · rcases set_cases g2 with ⟨rfl, z2, hl2⟩ | ⟨q2, g2⟩
      · intro a ha
        rw [updF_ne q] at ha
        rw [updF_same]
        intro hb
        rcases (c.n a hb).1 with z | z
        · exact keep j o1 q g1 a ha z
        · obtain ⟨w, k1, k2, k3⟩ := f1 j o1 g1
          exact k2.there a ha z
      · intro a ha
        rw [updF_ne q] at ha
        rw [updF_ne q2]
        exact f2 j k o1 o2 n g1 g2 a ha
/-- one's own list is changed -/
theorem Sat.write (S : Sat K G0 B0 ρ σ G H) {i : Nat} {p : Addr} {vs : List V} {ds es : List Dat} (hρ : ρ[i]? = some (.own ds)) (hσ : σ[i]? = some (some (.ref p))) (r : DRs K G vs es) :
    Sat K G0 B0 (ρ.set i (.own es)) σ G (upd H p (.lst vs)) := by
  obtain ⟨v, T, h1, h2, h3, h4⟩ := S.at hρ
  cases h2 with
  | @pl p' ws _ k1 k2 =>
    have e : p = p' := by rw [hσ] at h1; simpa using h1
    subst e
    have hp := h3 p List.mem_cons_self
    refine h4 (.pl es) G _ [p] ⟨Evl.Ex.refl _, S.gr.s.mut hp.1, fun a u ha hu => ?_, fun a q1 q2 q3 => q1, fun a ha => ⟨.inl ha, ?_⟩⟩ (.pl upd_same r)
    · rw [upd_ne (fun z => ha (by rw [z]; exact List.mem_cons_self))]; exact hu
    · rcases List.mem_cons.mp ha with z | z
      · rw [z]; exact hp.1
      · cases z
/-- all that is owned is frozen -/
def frzSl : Sl → Sl
  | .mt o => .dat (frz o)
  | s => s
/-- one's own thing is frozen -/
theorem Sat.freezeM (S : Sat K G0 B0 ρ σ G H) {i : Nat} {o : OD} (hρ : ρ[i]? = some (.mt o)) : ∃ G', Sat K G0 B0 (ρ.set i (.dat (frz o))) σ G' H ∧ Ex G G' := by
  obtain ⟨F, f1, f2⟩ := S.fp
  obtain ⟨v, h1, h2, h3⟩ := f1 i o hρ
  have eg : Ex G (fun a => if a ∈ F i then H a else G a) := fun a u hu => by
    by_cases q : a ∈ F i
    · rw [(h3 a q).1] at hu; cases hu
    · show (if a ∈ F i then H a else G a) = some u
      rw [if_neg q]; exact hu
  have es : Ex (fun a => if a ∈ F i then H a else G a) H := fun a u hu => by
    have hu : (if a ∈ F i then H a else G a) = some u := hu
    by_cases q : a ∈ F i
    · rw [if_pos q] at hu; exact hu
    · rw [if_neg q] at hu; exact S.gr.s a u hu
  refine ⟨_, ⟨⟨S.gr.g.trans eg, es, S.gr.h, fun a k1 k2 => ?_⟩, by rw [List.length_set]; exact S.len, fun j e hj => ?_, F, fun j o2 hj => ?_, fun j k o1 o2 n g1 g2 => ?_⟩, eg⟩
  · show (if a ∈ F i then H a else G a) = none
    rw [if_neg (fun q => k2 (h3 a q).2)]
    exact S.gr.m a k1 k2
  · rcases set_cases hj with ⟨rfl, z, hl⟩ | ⟨q, hj⟩
    · cases z
      refine ⟨v, h1, h2.frz eg fun a ha u hu => ?_⟩
      show (if a ∈ F i then H a else G a) = some u
      rw [if_pos ha]; exact hu
    · obtain ⟨w, k1, k2⟩ := S.dat j e hj
      exact ⟨w, k1, k2.mono eg⟩
  · rcases set_cases hj with ⟨rfl, z, hl⟩ | ⟨q, hj⟩
    · cases z
    · obtain ⟨w, k1, k2, k3⟩ := f1 j o2 hj
      refine ⟨w, k1, k2.keep eg fun a _ u hu => hu, fun a ha => ⟨?_, (k3 a ha).2⟩⟩
      show (if a ∈ F i then H a else G a) = none
      rw [if_neg (fun q2 => f2 i j o o2 q hρ hj a q2 ha)]
      exact (k3 a ha).1
  · rcases set_cases g1 with ⟨rfl, z, hl⟩ | ⟨q, g1⟩
    · cases z
    · rcases set_cases g2 with ⟨rfl, z2, hl2⟩ | ⟨q2, g2⟩
      · cases z2
      · exact f2 j k o1 o2 n g1 g2
theorem Sat.freeze (S : Sat K G0 B0 ρ σ G H) {i : Nat} {ds : List Dat} (hρ : ρ[i]? = some (.own ds)) : ∃ G', Sat K G0 B0 (ρ.set i (.dat (.lst ds))) σ G' H := by
  obtain ⟨G', h, _⟩ := S.freezeM hρ
  exact ⟨G', h⟩
/-- all that is owned is looked at: frozen, and one's own again -/
theorem Sat.peek (S : Sat K G0 B0 ρ σ G H) : ∃ G1, Sat K G1 G1 (ρ.map frzSl) σ G1 H ∧ ∀ G2 H2, Grow G1 H G2 H2 → ∃ G3, Grow G H G3 H2 ∧ ∀ a, H a = none → G3 a = G2 a := by
  obtain ⟨F, f1, f2⟩ := S.fp
  classical
  let P : Addr → Prop := fun a => ∃ i o, ρ[i]? = some (Sl.mt o) ∧ a ∈ F i
  have hP : ∀ a, P a → G a = none ∧ H a ≠ none := fun a ⟨i, o, h, ha⟩ => by
    obtain ⟨v, h1, h2, h3⟩ := f1 i o h
    exact ⟨(h3 a ha).1, h2.there a ha⟩
  have eg : Ex G (fun a => if P a then H a else G a) := fun a u hu => by
    show (if P a then H a else G a) = some u
    rw [if_neg (fun q => by rw [(hP a q).1] at hu; cases hu)]; exact hu
  have es : Ex (fun a => if P a then H a else G a) H := fun a u hu => by
    have hu : (if P a then H a else G a) = some u := hu
    by_cases q : P a
    · rw [if_pos q] at hu; exact hu
    · rw [if_neg q] at hu; exact S.gr.s a u hu
  refine ⟨fun a => if P a then H a else G a, ⟨⟨Evl.Ex.refl _, es, es, fun a h _ => h⟩, by rw [List.length_map]; exact S.len, fun j e hj => ?_, fun _ => [], fun j o2 hj => ?_, fun j k o1 o2 n g1 g2 a ha => by cases ha⟩, fun G2 H2 g => ⟨fun a => if P a then none else G2 a, ⟨fun a u hu => ?_, fun a u hu => ?_, g.h, fun a k1 k2 => ?_⟩, fun a ha => ?_⟩⟩
  · rw [List.getElem?_map] at hj
    cases z : ρ[j]? with
    | none => rw [z] at hj; cases hj
    | some s =>
      rw [z] at hj
      have hj : frzSl s = .dat e := Option.some.inj hj
      cases s with
      | no => cases hj
      | dat d =>
        cases hj
        obtain ⟨w, k1, k2⟩ := S.dat j e z
        exact ⟨w, k1, k2.mono eg⟩
      | mt o =>
        cases hj
        obtain ⟨w, k1, k2, k3⟩ := f1 j o z
        refine ⟨w, k1, k2.frz eg fun a ha u hu => ?_⟩
        show (if P a then H a else G a) = some u
        rw [if_pos ⟨j, o, z, ha⟩]; exact hu
  · rw [List.getElem?_map] at hj
    cases z : ρ[j]? with
    | none => rw [z] at hj; cases hj
    | some s =>
      rw [z] at hj
      have hj : frzSl s = .mt o2 := Option.some.inj hj
      cases s <;> cases hj
  · have q : ¬ P a := fun q => by rw [(hP a q).1] at hu; cases hu
    show (if P a then none else G2 a) = some u
    rw [if_neg q]
    refine g.g a u ?_
    show (if P a then H a else G a) = some u
    rw [if_neg q]; exact hu
  · have hu : (if P a then none else G2 a) = some u := hu
    by_cases q : P a
    · rw [if_pos q] at hu; cases hu
    · rw [if_neg q] at hu; exact g.s a u hu
  · show (if P a then none else G2 a) = none
    by_cases q : P a
    · rw [if_pos q]
    · rw [if_neg q]
      refine g.m a ?_ k2
      show (if P a then H a else G a) = none
      rw [if_neg q]; exact k1
  · show (if P a then none else G2 a) = G2 a
    rw [if_neg (fun q => (hP a q).2 ha)]
end

/-! ### what a reading yields -/
def Sem (K : PySem.W.Frag) (t : TE) (ρ : List Sl) (d : Dat) : Prop :=
  ∀ G0 B0 σ G H, Sat K G0 B0 ρ σ G H → ∀ Q : VK, (∀ v G' H', Grow G H G' H' → DR K G' v d → Q v H') → t σ H Q
def SemT (K : PySem.W.Frag) (t : TT) (ρ : List Sl) (b : Bool) : Prop :=
  ∀ G0 B0 σ G H, Sat K G0 B0 ρ σ G H → ∀ Q : Bool → Hp → Prop, (∀ G' H', Grow G H G' H' → Q b H') → t σ H Q
def SemA (K : PySem.W.Frag) (t : TA) (ρ : List Sl) (ds : List Dat) : Prop :=
  ∀ G0 B0 σ G H, Sat K G0 B0 ρ σ G H → ∀ Q : List V → Hp → Prop, (∀ vs G' H', Grow G H G' H' → DRs K G' vs ds → Q vs H') → t σ H Q
/-- a new list that nobody else knows -/
def SemN (K : PySem.W.Frag) (t : TE) (ρ : List Sl) (ds : List Dat) : Prop :=
  ∀ G0 B0 σ G H, Sat K G0 B0 ρ σ G H → ∀ Q : VK, (∀ p vs G' H', Grow G H G' H' → H p = none → G' p = none → H' p = some (.lst vs) → DRs K G' vs ds → Q (.ref p) H') → t σ H Q
def SemO (K : PySem.W.Frag) (t : TO) (ρ : List Sl) (o : Option Int) : Prop :=
  ∀ G0 B0 σ G H, Sat K G0 B0 ρ σ G H → ∀ Q : Option Int → Hp → Prop, (∀ G' H', Grow G H G' H' → Q o H') → t σ H Q
/-- by values: an operation, a call -/
def OpS (K : PySem.W.Frag) (r : R2) (a b c : Dat) : Prop :=
  ∀ x y G H, Ex G H → DR K G x a → DR K G y b → ∀ Q : VK, (∀ v G' H', Grow G H G' H' → DR K G' v c → Q v H') → r x y H Q
def UnS (K : PySem.W.Frag) (r : V → Hp → VK → Prop) (a c : Dat) : Prop :=
  ∀ x G H, Ex G H → DR K G x a → ∀ Q : VK, (∀ v G' H', Grow G H G' H' → DR K G' v c → Q v H') → r x H Q
def CallS (K : PySem.W.Frag) (r : List V → Hp → VK → Prop) (ds : List Dat) (c : Dat) : Prop :=
  ∀ xs G H, Ex G H → DRs K G xs ds → ∀ Q : VK, (∀ v G' H', Grow G H G' H' → DR K G' v c → Q v H') → r xs H Q
def MtS (K : PySem.W.Frag) (r : V → List V → Hp → VK → Prop) (a : Dat) (ds : List Dat) (c : Dat) : Prop :=
  ∀ x xs G H, Ex G H → DR K G x a → DRs K G xs ds → ∀ Q : VK, (∀ v G' H', Grow G H G' H' → DR K G' v c → Q v H') → r x xs H Q
def SlS (K : PySem.W.Frag) (r : V → Option Int → Option Int → Hp → VK → Prop) (a : Dat) (lo hi : Option Int) (c : Dat) : Prop :=
  ∀ x G H, Ex G H → DR K G x a → ∀ Q : VK, (∀ v G' H', Grow G H G' H' → DR K G' v c → Q v H') → r x lo hi H Q

section
variable {K : PySem.W.Frag} {ρ : List Sl} {t ta tb tc te : TE} {a b c d : Dat}
theorem s_var {i : Nat} (h : ρ[i]? = some (.dat d)) : Sem K (tVar i) ρ d := fun G0 B0 σ G H S Q q => by
  obtain ⟨v, h1, h2⟩ := S.dat i d h
  exact ⟨v, h1, q v G H (Grow.refl S.gr.s) h2⟩
theorem s_c {v : V} (h : ∀ G, DR K G v d) : Sem K (tC v) ρ d := fun G0 B0 σ G H S Q q => q v G H (Grow.refl S.gr.s) (h G)
theorem s_int {i : Int} : Sem K (tC (.int i)) ρ (.int i) := s_c fun _ => .int i
theorem s_bl {i : Bool} : Sem K (tC (.bl i)) ρ (.bl i) := s_c fun _ => .bl i
theorem s_non : Sem K (tC .non) ρ .non := s_c fun _ => .non
theorem s_str {x : Str} : Sem K (tC (.str x)) ρ (.txt x.cps.toList) := s_c fun _ => .ofStr x
theorem s_op {r : R2} (ha : Sem K ta ρ a) (hb : Sem K tb ρ b) (hr : OpS K r a b c) : Sem K (tOp r ta tb) ρ c := fun G0 B0 σ G H S Q q =>
  ha _ _ _ _ _ S _ fun x G1 H1 g1 rx => hb _ _ _ _ _ (S.grow g1) _ fun y G2 H2 g2 ry => hr x y G2 H2 g2.s (rx.mono g2.g) ry Q fun v G3 H3 g3 rv => q v G3 H3 ((g1.trans g2).trans g3) rv
theorem s_un {r : V → Hp → VK → Prop} (ha : Sem K ta ρ a) (hr : UnS K r a c) : Sem K (tUn r ta) ρ c := fun G0 B0 σ G H S Q q =>
  ha _ _ _ _ _ S _ fun x G1 H1 g1 rx => hr x G1 H1 g1.s rx Q fun v G3 H3 g3 rv => q v G3 H3 (g1.trans g3) rv
theorem s_is {e : Dat} (h : Sem K t ρ d) (z : d = e) : Sem K t ρ e := z ▸ h
theorem st_is {e e' : Bool} {t : TT} (h : SemT K t ρ e) (z : e = e') : SemT K t ρ e' := z ▸ h
theorem s_chain {r r' : R2} {k l : Bool} (ha : Sem K ta ρ a) (hb : Sem K tb ρ b) (hr : OpS K r a b (.bl k)) (hc : k = true → Sem K tc ρ c) (hr' : k = true → OpS K r' b c (.bl l)) : Sem K (tChain r r' ta tb tc) ρ (.bl (k && l)) := fun G0 B0 σ G H S Q q =>
  ha _ _ _ _ _ S _ fun x G1 H1 g1 rx => hb _ _ _ _ _ (S.grow g1) _ fun y G2 H2 g2 ry => hr x y G2 H2 g2.s (rx.mono g2.g) ry _ fun v G3 H3 g3 rv => by
    cases rv
    refine ⟨k, rfl, ?_⟩
    cases k with
    | false => exact q _ G3 H3 ((g1.trans g2).trans g3) (.bl _)
    | true =>
      rw [if_pos rfl]
      exact hc rfl _ _ _ _ _ (((S.grow g1).grow g2).grow g3) _ fun w G4 H4 g4 rw' => hr' rfl y w G4 H4 g4.s (ry.mono (g3.trans g4).g) rw' Q fun v G5 H5 g5 rv => q v G5 H5 ((((g1.trans g2).trans g3).trans g4).trans g5) rv
theorem s_andV {k : Bool} (ha : Sem K ta ρ (.bl k)) (hb : k = true → Sem K tb ρ d) : Sem K (tAndV ta tb) ρ (if k then d else .bl false) := fun G0 B0 σ G H S Q q =>
  ha _ _ _ _ _ S _ fun x G1 H1 g1 rx => by
    cases rx
    refine ⟨k, rfl, ?_⟩
    cases k with
    | false => exact q _ G1 H1 g1 (.bl _)
    | true => rw [if_pos rfl]; exact hb rfl _ _ _ _ _ (S.grow g1) _ fun y G2 H2 g2 ry => q _ _ _ (g1.trans g2) ry
theorem s_orV {k : Bool} (ha : Sem K ta ρ (.bl k)) (hb : k = false → Sem K tb ρ d) : Sem K (tOrV ta tb) ρ (if k then .bl true else d) := fun G0 B0 σ G H S Q q =>
  ha _ _ _ _ _ S _ fun x G1 H1 g1 rx => by
    cases rx
    refine ⟨k, rfl, ?_⟩
    cases k with
    | true => exact q _ G1 H1 g1 (.bl _)
    | false => rw [if_neg (by simp)]; exact hb rfl _ _ _ _ _ (S.grow g1) _ fun y G2 H2 g2 ry => q _ _ _ (g1.trans g2) ry
theorem s_andB {k l : Bool} (ha : Sem K ta ρ (.bl k)) (hb : k = true → Sem K tb ρ (.bl l)) : Sem K (tAndV ta tb) ρ (.bl (k && l)) := s_is (s_andV ha hb) (by cases k <;> rfl)
theorem s_orB {k l : Bool} (ha : Sem K ta ρ (.bl k)) (hb : k = false → Sem K tb ρ (.bl l)) : Sem K (tOrV ta tb) ρ (.bl (k || l)) := s_is (s_orV ha hb) (by cases k <;> rfl)
theorem s_notB {k : Bool} (ha : Sem K ta ρ (.bl k)) : Sem K (tNotV ta) ρ (.bl (!k)) := fun G0 B0 σ G H S Q q =>
  ha _ _ _ _ _ S _ fun x G1 H1 g1 rx => by
    cases rx
    exact ⟨k, rfl, q _ G1 H1 g1 (.bl _)⟩
theorem s_if {u : TT} {k : Bool} (h : SemT K u ρ k) (ha : k = true → Sem K ta ρ a) (hb : k = false → Sem K tb ρ b) : Sem K (tIf u ta tb) ρ (if k then a else b) := fun G0 B0 σ G H S Q q =>
  h _ _ _ _ _ S _ fun G1 H1 g1 => by
    cases k with
    | true => rw [if_pos rfl]; exact ha rfl _ _ _ _ _ (S.grow g1) _ fun y G2 H2 g2 ry => q _ _ _ (g1.trans g2) ry
    | false => rw [if_neg (by simp)]; exact hb rfl _ _ _ _ _ (S.grow g1) _ fun y G2 H2 g2 ry => q _ _ _ (g1.trans g2) ry
/-! tests -/
theorem st_and {u w : TT} {k l : Bool} (ha : SemT K u ρ k) (hb : k = true → SemT K w ρ l) : SemT K (tAnd u w) ρ (k && l) := fun G0 B0 σ G H S Q q =>
  ha _ _ _ _ _ S _ fun G1 H1 g1 => by
    cases k with
    | true => rw [if_pos rfl]; exact hb rfl _ _ _ _ _ (S.grow g1) _ fun G2 H2 g2 => q _ _ (g1.trans g2)
    | false => rw [if_neg (by simp)]; exact q _ _ g1
theorem st_or {u w : TT} {k l : Bool} (ha : SemT K u ρ k) (hb : k = false → SemT K w ρ l) : SemT K (tOr u w) ρ (k || l) := fun G0 B0 σ G H S Q q =>
  ha _ _ _ _ _ S _ fun G1 H1 g1 => by
    cases k with
    | true => rw [if_pos rfl]; exact q _ _ g1
    | false => rw [if_neg (by simp)]; exact hb rfl _ _ _ _ _ (S.grow g1) _ fun G2 H2 g2 => q _ _ (g1.trans g2)
theorem st_not {u : TT} {k : Bool} (ha : SemT K u ρ k) : SemT K (tNot u) ρ (!k) := fun G0 B0 σ G H S Q q =>
  ha _ _ _ _ _ S _ fun G1 H1 g1 => q _ _ g1
/-- a datum's truth -/
def truD : Dat → Bool
  | .non => false
  | .bl b => b
  | .int i => i != 0
  | .txt cs => !cs.isEmpty
  | .lst xs => !xs.isEmpty
  | .tup xs => !xs.isEmpty
  | .ins _ _ => true
  | .dct kvs => !kvs.isEmpty
  | .scr ns => !ns.isEmpty
  | .ty _ => true
  | .cls _ => true
  | .exc _ _ => true
def txtFits : Dat → Prop
  | .txt cs => cs.length ≤ sizeLine
  | .ins _ _ => False
  | .ty _ => False
  | .cls _ => False
  | .exc _ _ => False
  | _ => True
theorem DRs.isEmpty {H : Hp} {vs : List V} {ds : List Dat} (r : DRs K H vs ds) : (!vs.isEmpty) = !ds.isEmpty := by cases r <;> rfl
theorem DRk.isEmpty {H : Hp} {vs : List (Key × V)} {ds : List (Key × Dat)} (r : DRk K H vs ds) : (!vs.isEmpty) = !ds.isEmpty := by cases r <;> rfl
theorem st_tru (ha : Sem K ta ρ d) (hf : txtFits d) : SemT K (tTru K ta) ρ (truD d) := fun G0 B0 σ G H S Q q =>
  ha _ _ _ _ _ S _ fun x G1 H1 g1 rx => by
    refine ⟨truD d, ?_, q _ _ g1⟩
    cases rx with
    | non => rfl
    | ty n => exact hf.elim
    | cls n => exact hf.elim
    | exc0 h => exact hf.elim
    | exc1 h h2 r => exact hf.elim
    | bl b => rfl
    | int i => rfl
    | txt cs =>
      refine ⟨by
        have hf' : cs.length ≤ sizeLine := hf
        simpa [Str.length] using hf', ?_⟩
      cases cs <;> simp [truD, Str.length]
      omega
    | lst h r => exact .inl ⟨_, .inl (.inl (g1.s _ _ h)), r.isEmpty.symm⟩
    | @scr a ns h => exact .inl ⟨_, ex_l g1.s h, by cases ns <;> rfl⟩
    | tup h r => exact .inr (.inl ⟨_, ex_t g1.s h, r.isEmpty.symm⟩)
    | ins h r => exact hf.elim
    | dct h r => exact .inr (.inr ⟨_, g1.s _ _ h, r.isEmpty.symm⟩)
theorem st_bl {k : Bool} (ha : Sem K ta ρ (.bl k)) : SemT K (tTru K ta) ρ k := st_tru ha trivial
/-! arguments, displays, slices, calls -/
theorem sa_nil : SemA K tNil ρ [] := fun G0 B0 σ G H S Q q => q [] G H (Grow.refl S.gr.s) .nil
theorem sa_cons {tr : TA} {ds : List Dat} (ha : Sem K ta ρ a) (hr : SemA K tr ρ ds) : SemA K (tCons ta tr) ρ (a :: ds) := fun G0 B0 σ G H S Q q =>
  ha _ _ _ _ _ S _ fun x G1 H1 g1 rx => hr _ _ _ _ _ (S.grow g1) _ fun xs G2 H2 g2 rs => q _ _ _ (g1.trans g2) (.cons (rx.mono g2.g) rs)
theorem s_tup {u : TA} {ds : List Dat} (h : SemA K u ρ ds) (hl : ds.length ≤ sizeLine := by decide) : Sem K (tTup u) ρ (.tup ds) := fun G0 B0 σ G H S Q q =>
  h _ _ _ _ _ S _ fun xs G1 H1 g1 rs => ⟨by rw [rs.length]; exact hl, fun p hp => q _ _ _ (g1.trans (Grow.new g1.s hp)) (.tup (.inl (.inl upd_same)) (rs.mono (Evl.Ex.new (fresh_back g1.s hp))))⟩
theorem s_lst {u : TA} {ds : List Dat} (h : SemA K u ρ ds) (hl : ds.length ≤ sizeLine := by decide) : Sem K (tLst u) ρ (.lst ds) := fun G0 B0 σ G H S Q q =>
  h _ _ _ _ _ S _ fun xs G1 H1 g1 rs => ⟨by rw [rs.length]; exact hl, fun p hp => q _ _ _ (g1.trans (Grow.new g1.s hp)) (.lst upd_same (rs.mono (Evl.Ex.new (fresh_back g1.s hp))))⟩
theorem sn_lst {u : TA} {ds : List Dat} (h : SemA K u ρ ds) (hl : ds.length ≤ sizeLine := by decide) : SemN K (tLst u) ρ ds := fun G0 B0 σ G H S Q q =>
  h _ _ _ _ _ S _ fun xs G1 H1 g1 rs => ⟨by rw [rs.length]; exact hl, fun p hp => q p xs G1 _ (g1.trans (Grow.newM g1.s hp)) (fresh_back g1.h hp) (fresh_back g1.s hp) upd_same rs⟩
/-- a new list, told as a datum -/
theorem s_ofN {ds : List Dat} (h : SemN K t ρ ds) : Sem K t ρ (.lst ds) := fun G0 B0 σ G H S Q q =>
  h _ _ _ _ _ S _ fun p vs G1 H1 g1 hp hg h1 rs => by
    refine q (.ref p) (upd G1 p (.lst vs)) H1 ⟨g1.g.trans (Evl.Ex.new hg), fun a u e => ?_, g1.h, fun a e1 e2 => ?_⟩ (.lst upd_same (rs.mono (Evl.Ex.new hg)))
    · by_cases z : a = p
      · subst z; rw [upd_same] at e; cases e; exact h1
      · rw [upd_ne z] at e; exact g1.s a u e
    · have z : a ≠ p := fun z => by subst z; exact e2 hp
      rw [upd_ne z]; exact g1.m a e1 e2
theorem so_none : SemO K tNoPart ρ none := fun G0 B0 σ G H S Q q => q G H (Grow.refl S.gr.s)
theorem so_some {i : Int} (h : Sem K te ρ (.int i)) : SemO K (tPart te) ρ (some i) := fun G0 B0 σ G H S Q q => h _ _ _ _ _ S _ fun x G1 H1 g1 rx => by
  cases rx
  exact ⟨i, rfl, q _ _ g1⟩
theorem s_sl {r : V → Option Int → Option Int → Hp → VK → Prop} {tl th : TO} {lo hi : Option Int} (h : Sem K te ρ a) (h1 : SemO K tl ρ lo) (h2 : SemO K th ρ hi) (hr : SlS K r a lo hi c) : Sem K (tSl r te tl th) ρ c := fun G0 B0 σ G H S Q q =>
  h _ _ _ _ _ S _ fun x G1 H1 g1 rx => h1 _ _ _ _ _ (S.grow g1) _ fun G2 H2 g2 => h2 _ _ _ _ _ ((S.grow g1).grow g2) _ fun G3 H3 g3 =>
    hr x G3 H3 g3.s (rx.mono (g2.trans g3).g) Q fun v G4 H4 g4 rv => q v G4 H4 (((g1.trans g2).trans g3).trans g4) rv
theorem s_cb {r : List V → Hp → VK → Prop} {u : TA} {ds : List Dat} (h : SemA K u ρ ds) (hr : CallS K r ds c) : Sem K (tCB r u) ρ c := fun G0 B0 σ G H S Q q =>
  h _ _ _ _ _ S _ fun xs G1 H1 g1 rs => hr xs G1 H1 g1.s rs Q fun v G2 H2 g2 rv => q v G2 H2 (g1.trans g2) rv
theorem s_m0 {r : V → List V → Hp → VK → Prop} {cs : List Nat} (h : Sem K te ρ (.txt cs)) (hr : MtS K r (.txt cs) [] c) : Sem K (tM0 r te) ρ c := fun G0 B0 σ G H S Q q =>
  h _ _ _ _ _ S _ fun x G1 H1 g1 rx => ⟨by cases rx; exact ⟨_, rfl⟩, hr x [] G1 H1 g1.s rx .nil Q fun v G2 H2 g2 rv => q v G2 H2 (g1.trans g2) rv⟩
theorem s_m1 {r : V → List V → Hp → VK → Prop} {cs : List Nat} (h : Sem K ta ρ (.txt cs)) (h1 : Sem K te ρ d) (hr : MtS K r (.txt cs) [d] c) : Sem K (tM1 r ta te) ρ c := fun G0 B0 σ G H S Q q =>
  h _ _ _ _ _ S _ fun x G1 H1 g1 rx => ⟨by cases rx; exact ⟨_, rfl⟩, h1 _ _ _ _ _ (S.grow g1) _ fun y G2 H2 g2 ry =>
    hr x [y] G2 H2 g2.s (rx.mono g2.g) (.cons ry .nil) Q fun v G3 H3 g3 rv => q v G3 H3 ((g1.trans g2).trans g3) rv⟩
/-- a def's promise by data: R of what is handed in and what is told -/
def spD (K : PySem.W.Frag) (R : List Dat → Dat → Prop) : Sp := fun vs H Q _ => ∃ G ds d, Ex G H ∧ DRs K G vs ds ∧ R ds d ∧ ∀ v G' H', Grow G H G' H' → DR K G' v d → Q v H'
theorem s_call {R : List Dat → Dat → Prop} {E : XK} {u : TA} {ds : List Dat} (h : SemA K u ρ ds) (hr : R ds c) : Sem K (tCall (spD K R) [] E u) ρ c := fun G0 B0 σ G H S Q q =>
  h _ _ _ _ _ S _ fun xs G1 H1 g1 rs => ⟨G1, ds, c, g1.s, by rw [List.append_nil]; exact rs, hr, fun v G2 H2 g2 rv => q v G2 H2 (g1.trans g2) rv⟩
end
end DL

set_option Elab.async false
set_option linter.all false
set_option maxRecDepth 100000
namespace DL
open PySem PySem.Spec PyProof.Rows L2
open Evl (Ex ex_l ex_t fresh_back)

/-! ### operators for all data at once -/
def uAdd (K : PySem.W.Frag) : R2 := fun x y H Q => (∃ i j, x = .int i ∧ y = .int j ∧ Q (.int (i + j)) H) ∨ (∃ i j, x = .str i ∧ y = .str j ∧ i.length + j.length ≤ sizeLine ∧ Q (.str (i ++ j)) H) ∨ rCat x y H Q ∨ rCatA K x y H Q
def uSub : R2 := fun x y H Q => ∃ i j, x = .int i ∧ y = .int j ∧ Q (.int (i - j)) H
def uMul : R2 := fun x y H Q => (∃ i j, x = .int i ∧ y = .int j ∧ CMul i j ∧ Q (.int (i * j)) H) ∨ (∃ a n, x = .str a ∧ y = .int n ∧ MulOk a n ∧ Q (.str (Txt.mul a n)) H)
def uDiv : R2 := fun x y H Q => ∃ i j, x = .int i ∧ y = .int j ∧ CDiv i j ∧ Q (.int (i / j)) H
def uMod : R2 := fun x y H Q => ∃ i j, x = .int i ∧ y = .int j ∧ 0 < j ∧ Q (.int (i % j)) H
def uEq (K : PySem.W.Frag) : R2 := fun x y H Q => rEq x y H Q ∨ rEqD K x y H Q
def uNe (K : PySem.W.Frag) : R2 := fun x y H Q => rNe x y H Q ∨ rNeD K x y H Q
def uLt : R2 := fun x y H Q => (∃ i j, x = .int i ∧ y = .int j ∧ Q (.bl (decide (i < j))) H)
def uLe : R2 := fun x y H Q => (∃ i j, x = .int i ∧ y = .int j ∧ Q (.bl (decide (i ≤ j))) H)
def uGt : R2 := fun x y H Q => (∃ i j, x = .int i ∧ y = .int j ∧ Q (.bl (decide (j < i))) H)
def uGe : R2 := fun x y H Q => (∃ i j, x = .int i ∧ y = .int j ∧ Q (.bl (decide (j ≤ i))) H)
def uIn (K : PySem.W.Frag) : R2 := fun x y H Q => (∃ (c : Nat) (z : Str), x = .str ⟨#[c]⟩ ∧ y = .str z ∧ Q (.bl (decide (c ∈ z.cps.toList))) H) ∨ rIn K false x y H Q ∨ rInD K x y H Q
def uNotIn (K : PySem.W.Frag) : R2 := fun x y H Q => (∃ (c : Nat) (z : Str), x = .str ⟨#[c]⟩ ∧ y = .str z ∧ Q (.bl (!decide (c ∈ z.cps.toList))) H) ∨ rIn K true x y H Q ∨ rNotInD K x y H Q
def uIs : R2 := fun x y H Q => (y = .non ∧ Q (.bl (decide (x = .non))) H) ∨ (∃ a b : Bool, x = .bl a ∧ y = .bl b ∧ Q (.bl (decide (a = b))) H)
def uIsNot : R2 := fun x y H Q => (y = .non ∧ Q (.bl (!decide (x = .non))) H) ∨ (∃ a b : Bool, x = .bl a ∧ y = .bl b ∧ Q (.bl (!decide (a = b))) H)
def uSl (K : PySem.W.Frag) : V → Option Int → Option Int → Hp → VK → Prop := fun x lo hi H Q => rSlS x lo hi H Q ∨ rSlL K x lo hi H Q ∨ rSlA K x lo hi H Q
def uNeg : V → Hp → VK → Prop := fun x H Q => ∃ i, x = .int i ∧ Q (.int (-i)) H
section
variable {X : Cx} {K : PySem.W.Frag}
theorem op_mul_str : OpR X (binaryOp .Mult) (fun x y H Q => ∃ a n, x = .str a ∧ y = .int n ∧ MulOk a n ∧ Q (.str (Txt.mul a n)) H) := by
  intro pins s σ H x y v u Q I rx ry h
  obtain ⟨a, n, rfl, rfl, hok, q⟩ := h
  obtain ⟨t, rfl⟩ := rx
  obtain ⟨t', rfl⟩ := ry
  exact SB.mul hok fun t' k => ⟨.str (Txt.mul a n), H, I.tok _, ⟨_, rfl⟩, q⟩
theorem ou_add (hK : X.K = K) : OpR X (binaryOp .Add) (uAdd K) := by
  subst hK
  exact OpR.or op_add (OpR.or op_add_str (OpR.or op_cat op_catA))
theorem ou_sub : OpR X (binaryOp .Sub) uSub := op_sub
theorem ou_mul : OpR X (binaryOp .Mult) uMul := OpR.or op_mul op_mul_str
theorem ou_div : OpR X (binaryOp .FloorDiv) uDiv := op_fdiv
theorem ou_mod : OpR X (binaryOp .Mod) uMod := op_mod
theorem ou_eq (hK : X.K = K) (hu : X.A.units + 64 < cLine) : OpR X (compareOp .Eq) (uEq K) := by
  subst hK
  exact OpR.or op_eq (op_eqD hu)
theorem ou_ne (hK : X.K = K) (hu : X.A.units + 64 < cLine) : OpR X (compareOp .NotEq) (uNe K) := by
  subst hK
  exact OpR.or op_ne (op_neD hu)
theorem ou_lt : OpR X (compareOp .Lt) uLt := op_lt
theorem ou_le : OpR X (compareOp .LtE) uLe := op_le
theorem ou_gt : OpR X (compareOp .Gt) uGt := op_gt
theorem ou_ge : OpR X (compareOp .GtE) uGe := op_ge
theorem ou_in (hK : X.K = K) (hu : X.A.units + 65 < cLine) : OpR X (compareOp .In) (uIn K) := by
  subst hK
  exact OpR.or op_in_sign (OpR.or op_in_seq (op_inD hu))
theorem ou_notin (hK : X.K = K) (hu : X.A.units + 65 < cLine) : OpR X (compareOp .NotIn) (uNotIn K) := by
  subst hK
  exact OpR.or op_notIn_sign (OpR.or op_notIn_seq (op_notInD hu))
theorem ou_is : OpR X (compareOp .Is) uIs := OpR.or op_isN op_is_bl
theorem ou_isnot : OpR X (compareOp .IsNot) uIsNot := OpR.or op_notN op_isnot_bl
theorem ou_neg : UnR X (unaryOp .USub) uNeg := un_neg
theorem ou_ix (hK : X.K = K) : IxR X (rIx K) := by
  subst hK
  exact ix_seq
theorem ou_sl (hK : X.K = K) : SlR X (uSl K) := by
  subst hK
  exact SlR.or sl_str (SlR.or sl_list sl_tupA)
theorem pt_any {a : Expr} {ta : TE} (hK : X.K = K) (ha : PE X a ta) (he : ∀ whole, isTrue a X.env whole = (do let v ← whole; standAt a.pos; holding [v] (truthy v)) := by intro _; rfl) : PT X a (tTru K ta) := by
  subst hK
  exact pt_truth ha he
theorem room65 {k : Nat} {A : Around} (r : Room k A) : A.units + 65 < cLine := by have := r.un; omega
theorem room64 {k : Nat} {A : Around} (r : Room k A) : A.units + 64 < cLine := by have := r.un; omega
end

/-! ### the operators by data -/
section
variable {K : PySem.W.Frag}
theorem os_val {r : R2} {a b c : Dat} (h : ∀ x y G H, Ex G H → DR K G x a → DR K G y b → ∃ v, (∀ G, DR K G v c) ∧ ∀ Q : VK, Q v H → r x y H Q) : OpS K r a b c := fun x y G H e rx ry Q q => by
  obtain ⟨v, h1, h2⟩ := h x y G H e rx ry
  exact h2 Q (q v G H (Grow.refl e) (h1 G))
theorem os_addI {i j : Int} : OpS K (uAdd K) (.int i) (.int j) (.int (i + j)) := fun x y G H e rx ry Q q => by
  cases rx; cases ry
  exact .inl ⟨i, j, rfl, rfl, q _ _ _ (Grow.refl e) (.int _)⟩
theorem os_addT {a b : List Nat} (h : a.length + b.length ≤ sizeLine) : OpS K (uAdd K) (.txt a) (.txt b) (.txt (a ++ b)) := fun x y G H e rx ry Q q => by
  cases rx; cases ry
  refine .inr (.inl ⟨_, _, rfl, rfl, by rw [← strL, ← strL, strL_len, strL_len]; exact h, q _ _ _ (Grow.refl e) ?_⟩)
  have z := strL_app a b
  unfold strL at z
  rw [z]
  exact .txt _
theorem os_addL {a b : List Dat} (h : a.length + b.length ≤ sizeLine) : OpS K (uAdd K) (.lst a) (.lst b) (.lst (a ++ b)) := fun x y G H e rx ry Q q => by
  cases rx with
  | lst h1 r1 =>
    cases ry with
    | lst h2 r2 =>
      refine .inr (.inr (.inl ⟨_, _, _, _, rfl, rfl, e _ _ h1, e _ _ h2, by rw [r1.length, r2.length]; exact h, fun p hp => q _ _ _ (Grow.new e hp) (.lst upd_same ?_)⟩))
      exact (r1.append r2).mono (Evl.Ex.new (fresh_back e hp))
theorem os_addU {a b : List Dat} (h : a.length + b.length ≤ sizeLine) : OpS K (uAdd K) (.tup a) (.tup b) (.tup (a ++ b)) := fun x y G H e rx ry Q q => by
  cases rx with
  | tup h1 r1 =>
    cases ry with
    | tup h2 r2 =>
      refine .inr (.inr (.inr ⟨_, _, _, _, rfl, rfl, ex_t e h1, ex_t e h2, by rw [r1.length, r2.length]; exact h, fun z => ?_, fun z w => ?_, fun z w p hp => ?_⟩))
      · subst z
        cases r1
        exact q _ _ _ (Grow.refl e) (.tup h2 r2)
      · subst w
        cases r2
        rw [List.append_nil] at q
        exact q _ _ _ (Grow.refl e) (.tup h1 r1)
      · exact q _ _ _ (Grow.new e hp) (.tup (.inl (.inl upd_same)) ((r1.append r2).mono (Evl.Ex.new (fresh_back e hp))))
theorem os_sub {i j : Int} : OpS K uSub (.int i) (.int j) (.int (i - j)) := fun x y G H e rx ry Q q => by
  cases rx; cases ry
  exact ⟨i, j, rfl, rfl, q _ _ _ (Grow.refl e) (.int _)⟩
theorem os_mul {i j : Int} (h : CMul i j) : OpS K uMul (.int i) (.int j) (.int (i * j)) := fun x y G H e rx ry Q q => by
  cases rx; cases ry
  exact .inl ⟨i, j, rfl, rfl, h, q _ _ _ (Grow.refl e) (.int _)⟩
theorem os_div {i j : Int} (h : 0 < j ∧ j < 1073741824) : OpS K uDiv (.int i) (.int j) (.int (i / j)) := fun x y G H e rx ry Q q => by
  cases rx; cases ry
  exact ⟨i, j, rfl, rfl, h, q _ _ _ (Grow.refl e) (.int _)⟩
theorem os_mod {i j : Int} (h : 0 < j) : OpS K uMod (.int i) (.int j) (.int (i % j)) := fun x y G H e rx ry Q q => by
  cases rx; cases ry
  exact ⟨i, j, rfl, rfl, h, q _ _ _ (Grow.refl e) (.int _)⟩
theorem os_lt {i j : Int} : OpS K uLt (.int i) (.int j) (.bl (decide (i < j))) := fun x y G H e rx ry Q q => by
  cases rx; cases ry
  exact ⟨i, j, rfl, rfl, q _ _ _ (Grow.refl e) (.bl _)⟩
theorem os_le {i j : Int} : OpS K uLe (.int i) (.int j) (.bl (decide (i ≤ j))) := fun x y G H e rx ry Q q => by
  cases rx; cases ry
  exact ⟨i, j, rfl, rfl, q _ _ _ (Grow.refl e) (.bl _)⟩
theorem os_gt {i j : Int} : OpS K uGt (.int i) (.int j) (.bl (decide (j < i))) := fun x y G H e rx ry Q q => by
  cases rx; cases ry
  exact ⟨i, j, rfl, rfl, q _ _ _ (Grow.refl e) (.bl _)⟩
theorem os_ge {i j : Int} : OpS K uGe (.int i) (.int j) (.bl (decide (j ≤ i))) := fun x y G H e rx ry Q q => by
  cases rx; cases ry
  exact ⟨i, j, rfl, rfl, q _ _ _ (Grow.refl e) (.bl _)⟩
theorem us_neg {i : Int} : UnS K uNeg (.int i) (.int (-i)) := fun x G H e rx Q q => by
  cases rx
  exact ⟨i, rfl, q _ _ _ (Grow.refl e) (.int _)⟩
theorem mul_list (a : List Nat) : ∀ (n : Nat) (acc : List Nat), (List.replicate n a.toArray).foldl (· ++ ·) acc.toArray = (acc ++ (List.replicate n a).flatten).toArray
  | 0, acc => by simp
  | n + 1, acc => by
    rw [List.replicate_succ, List.foldl_cons, List.append_toArray, mul_list a n (acc ++ a), List.replicate_succ, List.flatten_cons, List.append_assoc]
/-- a text so many times -/
theorem os_mulT {a : List Nat} {n : Nat} (h : 2 ≤ n) (h2 : n ≤ 1000) (hz : a.length ≤ 1000) : OpS K uMul (.txt a) (.int n) (.txt (List.replicate n a).flatten) := fun x y G H e rx ry Q q => by
  cases rx; cases ry
  have hm : a.length * n ≤ 1000 * 1000 := Nat.mul_le_mul hz h2
  have e1 : (⟨a.toArray⟩ : Str).length = a.length := by simp [Str.length]
  refine .inr ⟨_, _, rfl, rfl, ⟨?_, fun _ _ => ?_, fun _ _ => ?_⟩, ?_⟩
  · rw [Bool.or_eq_false_iff]
    exact ⟨decide_eq_false (by omega), decide_eq_false (by omega)⟩
  · rw [e1]
    have : (1000 : Int) ≤ (2 ^ 63 - 1) / (n : Int) := by
      rw [Int.le_ediv_iff_mul_le (by omega)]
      omega
    omega
  · rw [e1]
    have : Builtin.Str.tooLong (a.length * (n : Int).toNat) = false := by
      unfold Builtin.Str.tooLong sizeLine
      rw [Int.toNat_natCast]
      exact decide_eq_false (by omega)
    exact this
  · have z : Txt.mul ⟨a.toArray⟩ (n : Int) = strL (List.replicate n a).flatten := by
      unfold Txt.mul
      rw [if_neg (by omega), e1]
      cases a with
      | nil =>
        rw [if_pos (by simp)]
        have : (List.replicate n ([] : List Nat)).flatten = [] := by
          rw [List.flatten_eq_nil_iff]
          intro l hl
          exact (List.mem_replicate.mp hl).2
        rw [this]; rfl
      | cons c r =>
        rw [if_neg]
        · have := mul_list (c :: r) n []
          rw [Int.toNat_natCast]
          show Str.mk _ = Str.mk _
          rw [List.nil_append] at this
          exact congrArg Str.mk this
        · simp
          omega
    rw [z]
    exact q _ _ _ (Grow.refl e) (.txt _)
/-! equality -/
theorem strL_eq (a b : List Nat) : decide ((V.str ⟨a.toArray⟩ : V) = .str ⟨b.toArray⟩) = decide (a = b) := by
  by_cases h : a = b
  · subst h; simp
  · rw [decide_eq_false h]
    refine decide_eq_false fun z => h ?_
    exact strL_inj (V.str.inj z)
theorem os_eqT {a b : List Nat} : OpS K (uEq K) (.txt a) (.txt b) (.bl (decide (a = b))) := fun x y G H e rx ry Q q => by
  cases rx; cases ry
  refine .inl ⟨rfl, ?_⟩
  rw [strL_eq]
  exact q _ _ _ (Grow.refl e) (.bl _)
theorem os_neT {a b : List Nat} : OpS K (uNe K) (.txt a) (.txt b) (.bl (!decide (a = b))) := fun x y G H e rx ry Q q => by
  cases rx; cases ry
  refine .inl ⟨rfl, ?_⟩
  rw [strL_eq]
  exact q _ _ _ (Grow.refl e) (.bl _)
theorem int_eq (a b : Int) : decide ((V.int a : V) = .int b) = decide (a = b) := by
  by_cases h : a = b
  · subst h; simp
  · rw [decide_eq_false h]
    exact decide_eq_false fun z => h (V.int.inj z)
theorem bl_eq (a b : Bool) : decide ((V.bl a : V) = .bl b) = decide (a = b) := by cases a <;> cases b <;> rfl
theorem os_eqI {a b : Int} : OpS K (uEq K) (.int a) (.int b) (.bl (decide (a = b))) := fun x y G H e rx ry Q q => by
  cases rx; cases ry
  refine .inl ⟨rfl, ?_⟩
  rw [int_eq]
  exact q _ _ _ (Grow.refl e) (.bl _)
theorem os_neI {a b : Int} : OpS K (uNe K) (.int a) (.int b) (.bl (!decide (a = b))) := fun x y G H e rx ry Q q => by
  cases rx; cases ry
  refine .inl ⟨rfl, ?_⟩
  rw [int_eq]
  exact q _ _ _ (Grow.refl e) (.bl _)
theorem os_eqB {a b : Bool} : OpS K (uEq K) (.bl a) (.bl b) (.bl (decide (a = b))) := fun x y G H e rx ry Q q => by
  cases rx; cases ry
  refine .inl ⟨rfl, ?_⟩
  rw [bl_eq]
  exact q _ _ _ (Grow.refl e) (.bl _)
theorem os_neB {a b : Bool} : OpS K (uNe K) (.bl a) (.bl b) (.bl (!decide (a = b))) := fun x y G H e rx ry Q q => by
  cases rx; cases ry
  refine .inl ⟨rfl, ?_⟩
  rw [bl_eq]
  exact q _ _ _ (Grow.refl e) (.bl _)
/-! deep equality -/
mutual
def toPy : Dat → PyData
  | .non => .none
  | .bl b => .bool b
  | .int i => .int i
  | .txt cs => .str (strL cs)
  | .lst xs => .list (toPys xs)
  | .tup xs => .tuple (toPys xs)
  | .scr ns => .list (ns.map .int)
  | .ins _ _ => .none
  | .dct _ => .none
  | .ty _ => .none
  | .cls _ => .none
  | .exc _ _ => .none
def toPys : List Dat → List PyData
  | [] => []
  | x :: r => toPy x :: toPys r
end
/-! plain data: no objects, no dicts -/
mutual
def plainD : Dat → Bool
  | .non | .bl _ | .int _ | .txt _ | .scr _ => true
  | .lst xs => plainDs xs
  | .tup xs => plainDs xs
  | _ => false
def plainDs : List Dat → Bool
  | [] => true
  | x :: r => plainD x && plainDs r
end
theorem dpInts {H : Hp} : ∀ ns : List Int, DpAll K H (ns.map V.int) (ns.map .int)
  | [] => .nil
  | n :: r => .cons (.int n) (dpInts r)
mutual
theorem DR.dp {H : Hp} : ∀ {v : V} {d : Dat}, DR K H v d → plainD d = true → Dp K H v (toPy d)
  | _, _, .non, _ => .non
  | _, _, .bl b, _ => .bl b
  | _, _, .int i, _ => .int i
  | _, _, .txt cs, _ => .str _
  | _, _, .lst h r, p => .lst (.inl (.inl h)) (DRs.dp r (by simpa [plainD] using p))
  | _, _, .tup h r, p => .tup h (DRs.dp r (by simpa [plainD] using p))
  | _, _, @DR.scr _ _ a ns h, _ => .lst h (dpInts ns)
  | _, _, .ins _ _, p => by simp [plainD] at p
  | _, _, .dct _ _, p => by simp [plainD] at p
  | _, _, .ty _, p => by simp [plainD] at p
  | _, _, .cls _, p => by simp [plainD] at p
  | _, _, .exc0 _, p => by simp [plainD] at p
  | _, _, .exc1 _ _ _, p => by simp [plainD] at p
theorem DRs.dp {H : Hp} : ∀ {v : List V} {d : List Dat}, DRs K H v d → plainDs d = true → DpAll K H v (toPys d)
  | _, _, .nil, _ => .nil
  | _, _, .cons h r, p => by
    rw [plainDs, Bool.and_eq_true] at p
    exact .cons (DR.dp h p.1) (DRs.dp r p.2)
end
theorem os_eqD {a b : Dat} (pa : plainD a = true) (pb : plainD b = true) (sa : SeqAt.shaped (toPy a) = true) (sb : SeqAt.shaped (toPy b) = true) : OpS K (uEq K) a b (.bl (PyData.eqv (toPy a) (toPy b))) := fun x y G H e rx ry Q q =>
  .inr ⟨_, _, (rx.mono e).dp pa, (ry.mono e).dp pb, sa, sb, q _ _ _ (Grow.refl e) (.bl _)⟩
theorem os_neD {a b : Dat} (pa : plainD a = true) (pb : plainD b = true) (sa : SeqAt.shaped (toPy a) = true) (sb : SeqAt.shaped (toPy b) = true) : OpS K (uNe K) a b (.bl (!PyData.eqv (toPy a) (toPy b))) := fun x y G H e rx ry Q q =>
  .inr ⟨_, _, (rx.mono e).dp pa, (ry.mono e).dp pb, sa, sb, q _ _ _ (Grow.refl e) (.bl _)⟩
theorem lay_ints : ∀ ns : List Int, PyData.canLayAll0 (ns.map PyData.int) = true
  | [] => rfl
  | n :: r => by
    show (PyData.canLay0 (.int n) && PyData.canLayAll0 (r.map PyData.int)) = true
    rw [lay_ints r]; rfl
theorem depth_ints : ∀ ns : List Int, PyData.depthAll (ns.map PyData.int) = 0
  | [] => rfl
  | n :: r => by
    show max (PyData.depth (.int n)) (PyData.depthAll (r.map PyData.int)) = 0
    rw [depth_ints r]; rfl
theorem shaped_ints (ns : List Int) : SeqAt.shaped (.list (ns.map .int)) = true := by
  unfold SeqAt.shaped
  rw [Bool.and_eq_true]
  refine ⟨lay_ints ns, decide_eq_true ?_⟩
  show PyData.depthAll (ns.map PyData.int) + 1 ≤ 64
  rw [depth_ints]; decide
theorem os_neScr {ns : List Int} : OpS K (uNe K) (.scr ns) (.lst []) (.bl (!ns.isEmpty)) := by
  have h := os_neD (K := K) (a := .scr ns) (b := .lst []) rfl rfl (shaped_ints ns) (by decide +kernel)
  have e : PyData.eqv (toPy (.scr ns)) (toPy (.lst [])) = ns.isEmpty := by cases ns <;> rfl
  rw [e] at h
  exact h
/-! in -/
theorem os_inC {c : Nat} {b : List Nat} : OpS K (uIn K) (.txt [c]) (.txt b) (.bl (decide (c ∈ b))) := fun x y G H e rx ry Q q => by
  cases rx; cases ry
  exact .inl ⟨c, _, rfl, rfl, q _ _ _ (Grow.refl e) (.bl _)⟩
theorem os_notinC {c : Nat} {b : List Nat} : OpS K (uNotIn K) (.txt [c]) (.txt b) (.bl (!decide (c ∈ b))) := fun x y G H e rx ry Q q => by
  cases rx; cases ry
  exact .inl ⟨c, _, rfl, rfl, q _ _ _ (Grow.refl e) (.bl _)⟩
theorem flat_txts : ∀ bs : List (List Nat), ((bs.map strL).map V.str).all flatV = true
  | [] => rfl
  | b :: r => by
    show (true && ((r.map strL).map V.str).all flatV) = true
    rw [flat_txts r]; rfl
theorem inV_txts (a : List Nat) : ∀ bs : List (List Nat), inV (.str ⟨a.toArray⟩) ((bs.map strL).map V.str) = decide (a ∈ bs)
  | [] => rfl
  | b :: r => by
    have ih := inV_txts a r
    unfold inV at ih ⊢
    rw [List.map_cons, List.map_cons, List.any_cons, ih]
    have e : eqV (.str (strL b)) (.str ⟨a.toArray⟩) = decide (a = b) := by
      show (strL b == strL a) = decide (a = b)
      by_cases h : a = b
      · subst h; simp
      · rw [decide_eq_false h]
        exact beq_eq_false_iff_ne.mpr fun z => h (strL_inj z).symm
    rw [e]
    by_cases h : a = b
    · subst h; simp
    · simp [h]
theorem os_inTT {a : List Nat} {bs : List (List Nat)} : OpS K (uIn K) (.txt a) (.tup (bs.map .txt)) (.bl (decide (a ∈ bs))) := fun x y G H e rx ry Q q => by
  cases rx
  cases ry with
  | tup h r =>
    have z := r.txts
    subst z
    refine .inr (.inl ⟨_, _, rfl, .inr (ex_t e h), rfl, flat_txts bs, ?_⟩)
    rw [inV_txts]
    exact q _ _ _ (Grow.refl e) (.bl _)
theorem os_notinTT {a : List Nat} {bs : List (List Nat)} : OpS K (uNotIn K) (.txt a) (.tup (bs.map .txt)) (.bl (!decide (a ∈ bs))) := fun x y G H e rx ry Q q => by
  cases rx
  cases ry with
  | tup h r =>
    have z := r.txts
    subst z
    refine .inr (.inl ⟨_, _, rfl, .inr (ex_t e h), rfl, flat_txts bs, ?_⟩)
    rw [inV_txts]
    exact q _ _ _ (Grow.refl e) (.bl _)
theorem os_inTL {a : List Nat} {bs : List (List Nat)} : OpS K (uIn K) (.txt a) (.lst (bs.map .txt)) (.bl (decide (a ∈ bs))) := fun x y G H e rx ry Q q => by
  cases rx
  cases ry with
  | lst h r =>
    have z := r.txts
    subst z
    refine .inr (.inl ⟨_, _, rfl, .inl (.inl (.inl (e _ _ h))), rfl, flat_txts bs, ?_⟩)
    rw [inV_txts]
    exact q _ _ _ (Grow.refl e) (.bl _)
theorem os_notinTL {a : List Nat} {bs : List (List Nat)} : OpS K (uNotIn K) (.txt a) (.lst (bs.map .txt)) (.bl (!decide (a ∈ bs))) := fun x y G H e rx ry Q q => by
  cases rx
  cases ry with
  | lst h r =>
    have z := r.txts
    subst z
    refine .inr (.inl ⟨_, _, rfl, .inl (.inl (.inl (e _ _ h))), rfl, flat_txts bs, ?_⟩)
    rw [inV_txts]
    exact q _ _ _ (Grow.refl e) (.bl _)
/-! is -/
theorem os_isB {a b : Bool} : OpS K uIs (.bl a) (.bl b) (.bl (decide (a = b))) := fun x y G H e rx ry Q q => by
  cases rx; cases ry
  exact .inr ⟨a, b, rfl, rfl, q _ _ _ (Grow.refl e) (.bl _)⟩
theorem os_isnotB {a b : Bool} : OpS K uIsNot (.bl a) (.bl b) (.bl (!decide (a = b))) := fun x y G H e rx ry Q q => by
  cases rx; cases ry
  exact .inr ⟨a, b, rfl, rfl, q _ _ _ (Grow.refl e) (.bl _)⟩
def isNon : Dat → Bool
  | .non => true
  | _ => false
theorem DR.isNon {H : Hp} {v : V} {d : Dat} (r : DR K H v d) : decide (v = .non) = isNon d := by cases r <;> rfl
theorem os_isN {a : Dat} : OpS K uIs a .non (.bl (isNon a)) := fun x y G H e rx ry Q q => by
  cases ry
  refine .inl ⟨rfl, ?_⟩
  rw [rx.isNon]
  exact q _ _ _ (Grow.refl e) (.bl _)
theorem os_isnotN {a : Dat} : OpS K uIsNot a .non (.bl (!isNon a)) := fun x y G H e rx ry Q q => by
  cases ry
  refine .inl ⟨rfl, ?_⟩
  rw [rx.isNon]
  exact q _ _ _ (Grow.refl e) (.bl _)
/-! subscripts -/
theorem DRs.atI {H : Hp} {vs : List V} {ds : List Dat} {i : Int} {d : Dat} (r : DRs K H vs ds) (h : atI ds i = some d) : ∃ v, atI vs i = some v ∧ DR K H v d := by
  unfold L2.atI at h ⊢
  rw [r.length]
  cases z : ixN ds.length i with
  | none => rw [z] at h; cases h
  | some j => rw [z] at h; exact r.at h
theorem os_ixL {ds : List Dat} {i : Int} {d : Dat} (h : atI ds i = some d) : OpS K (rIx K) (.lst ds) (.int i) d := fun x y G H e rx ry Q q => by
  cases ry
  cases rx with
  | lst hl r =>
    obtain ⟨v, h1, h2⟩ := r.atI h
    exact .inl ⟨_, _, _, v, rfl, rfl, .inl (.inl (e _ _ hl)), h1, q _ _ _ (Grow.refl e) h2⟩
theorem os_ixU {ds : List Dat} {i : Int} {d : Dat} (h : atI ds i = some d) : OpS K (rIx K) (.tup ds) (.int i) d := fun x y G H e rx ry Q q => by
  cases ry
  cases rx with
  | tup hl r =>
    obtain ⟨v, h1, h2⟩ := r.atI h
    exact .inr (.inl ⟨_, _, _, v, rfl, rfl, ex_t e hl, h1, q _ _ _ (Grow.refl e) h2⟩)
theorem os_ixT {cs : List Nat} {i : Int} {c : Nat} (h : atI cs i = some c) (hz : cs.length ≤ sizeLine) : OpS K (rIx K) (.txt cs) (.int i) (.txt [c]) := fun x y G H e rx ry Q q => by
  cases ry
  cases rx
  exact .inr (.inr ⟨_, _, c, rfl, rfl, by rw [← strL, strL_len]; exact hz, h, q _ _ _ (Grow.refl e) (.txt [c])⟩)
theorem atI_map {α β : Type} (f : α → β) {xs : List α} {i : Int} {x : α} (h : atI xs i = some x) : atI (xs.map f) i = some (f x) := by
  unfold atI at h ⊢
  rw [List.length_map]
  cases z : ixN xs.length i with
  | none => rw [z] at h; cases h
  | some j =>
    rw [z] at h
    show (xs.map f)[j]? = some (f x)
    have h' : xs[j]? = some x := h
    rw [List.getElem?_map, h']
    rfl
theorem os_ixS {ns : List Int} {i : Int} {n : Int} (h : atI ns i = some n) : OpS K (rIx K) (.scr ns) (.int i) (.int n) := fun x y G H e rx ry Q q => by
  cases ry
  cases rx with
  | scr hl => exact .inl ⟨_, _, _, _, rfl, rfl, ex_l e hl, atI_map V.int h, q _ _ _ (Grow.refl e) (.int n)⟩
/-! slices -/
def cutL {α : Type} (xs : List α) (lo hi : Option Int) : List α := (xs.drop (HT.sIx xs.length 0 lo)).take (HT.sIx xs.length xs.length hi - HT.sIx xs.length 0 lo)
theorem ss_txt {cs : List Nat} {lo hi : Option Int} (hz : cs.length ≤ sizeLine) : SlS K (uSl K) (.txt cs) lo hi (.txt (cutL cs lo hi)) := fun x G H e rx Q q => by
  cases rx
  refine .inl ⟨_, rfl, by rw [← strL, strL_len]; exact hz, q _ _ _ (Grow.refl e) ?_⟩
  have z : cutS (strL cs) lo hi = strL (cutL cs lo hi) := by
    unfold cutS cutL
    rw [strL_len, strL_cps]
    rfl
  unfold strL at z
  rw [z]
  exact .txt _
theorem ss_lst {cs : List Dat} {lo hi : Option Int} : SlS K (uSl K) (.lst cs) lo hi (.lst (cutL cs lo hi)) := fun x G H e rx Q q => by
  cases rx with
  | lst h r =>
    refine .inr (.inl ⟨_, _, rfl, .inl (.inl (e _ _ h)), fun p hp => q _ _ _ (Grow.new e hp) (.lst upd_same ?_)⟩)
    unfold cutV cutL
    rw [r.length]
    exact ((r.drop _).take _).mono (Evl.Ex.new (fresh_back e hp))
theorem ss_tup {cs : List Dat} {lo hi : Option Int} : SlS K (uSl K) (.tup cs) lo hi (.tup (cutL cs lo hi)) := fun x G H e rx Q q => by
  cases rx with
  | tup h r =>
    refine .inr (.inr ⟨_, _, rfl, ex_t e h, fun z => ?_, fun z p hp => q _ _ _ (Grow.new e hp) (.tup (.inl (.inl upd_same)) ?_)⟩)
    · rw [r.length] at z
      have e2 : cutL cs lo hi = cs := by
        unfold cutL
        rw [z.1, z.2]
        simp
      rw [e2] at q
      exact q _ _ _ (Grow.refl e) (.tup h r)
    · unfold cutV cutL
      rw [r.length]
      exact ((r.drop _).take _).mono (Evl.Ex.new (fresh_back e hp))
/-! built-in functions -/
def uLen (K : PySem.W.Frag) : List V → Hp → VK → Prop := fun xs H Q => ∃ x n, xs = [x] ∧ LenV K x H n ∧ Q (.int n) H
theorem cu_len {X : Cx} (hK : X.K = K) : CallR X (.builtin "len") (uLen K) := by
  subst hK
  exact call_len
theorem cs_lenT {cs : List Nat} (hz : cs.length ≤ sizeLine) : CallS K (uLen K) [.txt cs] (.int cs.length) := fun xs G H e r Q q => by
  cases r with
  | cons h r =>
    cases r
    cases h
    exact ⟨_, cs.length, rfl, ⟨by rw [← strL, strL_len]; exact hz, by rw [← strL, strL_len]⟩, q _ _ _ (Grow.refl e) (.int _)⟩
theorem cs_lenL {cs : List Dat} : CallS K (uLen K) [.lst cs] (.int cs.length) := fun xs G H e r Q q => by
  cases r with
  | cons h r =>
    cases r
    cases h with
    | lst h r => exact ⟨_, cs.length, rfl, .inl ⟨_, .inl (.inl (e _ _ h)), r.length.symm⟩, q _ _ _ (Grow.refl e) (.int _)⟩
theorem cs_lenU {cs : List Dat} : CallS K (uLen K) [.tup cs] (.int cs.length) := fun xs G H e r Q q => by
  cases r with
  | cons h r =>
    cases r
    cases h with
    | tup h r => exact ⟨_, cs.length, rfl, .inr ⟨_, ex_t e h, r.length.symm⟩, q _ _ _ (Grow.refl e) (.int _)⟩
theorem cs_lenS {ns : List Int} : CallS K (uLen K) [.scr ns] (.int ns.length) := fun xs G H e r Q q => by
  cases r with
  | cons h r =>
    cases r
    cases h with
    | scr h => exact ⟨_, ns.length, rfl, .inl ⟨_, ex_l e h, (List.length_map _).symm⟩, q _ _ _ (Grow.refl e) (.int _)⟩
theorem cu_all {X : Cx} (hK : X.K = K) (hc : X.calm = true) : CallR X (.builtin "all") (rAll K) := by
  subst hK
  exact cr_all hc
theorem cs_all {bs : List Bool} : CallS K (rAll K) [.lst (bs.map .bl)] (.bl (bs.all id)) := fun xs G H e r Q q => by
  cases r with
  | cons h r =>
    cases r
    cases h with
    | lst h r =>
      have z := r.bls
      subst z
      exact ⟨_, bs, rfl, .inl (.inl (e _ _ h)), q _ _ _ (Grow.refl e) (.bl _)⟩
def uMax : List V → Hp → VK → Prop := fun xs H Q => ∃ i j, xs = [.int i, .int j] ∧ Q (.int (if j > i then j else i)) H
def uMin : List V → Hp → VK → Prop := fun xs H Q => ∃ i j, xs = [.int i, .int j] ∧ Q (.int (if j < i then j else i)) H
theorem cu_max {X : Cx} (hc : X.calm = true) : CallR X (.builtin "max") uMax := call_max2 hc
theorem cu_min {X : Cx} (hc : X.calm = true) : CallR X (.builtin "min") uMin := call_min2 hc
theorem cs_max {i j : Int} : CallS K uMax [.int i, .int j] (.int (max i j)) := fun xs G H e r Q q => by
  cases r with
  | cons h r =>
    cases r with
    | cons h2 r =>
      cases r; cases h; cases h2
      refine ⟨i, j, rfl, ?_⟩
      have z : (if j > i then j else i) = max i j := by omega
      rw [z]
      exact q _ _ _ (Grow.refl e) (.int _)
theorem cs_min {i j : Int} : CallS K uMin [.int i, .int j] (.int (min i j)) := fun xs G H e r Q q => by
  cases r with
  | cons h r =>
    cases r with
    | cons h2 r =>
      cases r; cases h; cases h2
      refine ⟨i, j, rfl, ?_⟩
      have z : (if j < i then j else i) = min i j := by omega
      rw [z]
      exact q _ _ _ (Grow.refl e) (.int _)
/-! isinstance with a built-in class -/
def tyD : Dat → Option String
  | .non => some "NoneType"
  | .bl _ => some "bool"
  | .int _ => some "int"
  | .txt _ => some "str"
  | .lst _ => some "list"
  | .tup _ => some "tuple"
  | .dct _ => some "dict"
  | _ => none
theorem cu_isi {X : Cx} (hK : X.K = K) : CallR X (.builtin "isinstance") (rIsi K) := by
  subst hK
  exact call_isi
theorem DR.ty' {H : Hp} {v : V} {d : Dat} {t : String} (r : DR K H v d) (h : tyD d = some t) : TyX K H v (.type t) := by
  cases r with
  | non => cases h; exact .base .non
  | bl b => cases h; exact .base (.bl b)
  | int i => cases h; exact .base (.int i)
  | txt cs => cases h; exact .base (.str _)
  | lst hl r => cases h; exact .base (.lst hl)
  | tup hl r =>
    cases h
    rcases hl with (hl | ⟨o, hl⟩) | hl
    · exact .base (.tup hl)
    · exact .fTuple hl
    · obtain ⟨o, its, n, hk, hc, _⟩ := hl
      exact .kTuple hk hc
  | ins hl r => cases h
  | dct hl r => cases h; exact .base (.dK hl)
  | scr hl => cases h
  | ty n => cases h
  | cls n => cases h
  | exc0 _ => cases h
  | exc1 _ _ _ => cases h
theorem cs_isi {d : Dat} {t n : String} {b : Bool} (h : tyD d = some t) (hk : kitB t n = some b) : CallS K (rIsi K) [d, .ty n] (.bl b) := fun xs G H e r Q q => by
  cases r with
  | cons h1 r =>
    cases r with
    | cons h2 r =>
      cases r; cases h2
      exact ⟨_, _, _, _, b, rfl, .ty n, (h1.mono e).ty' h, kit_ty hk, q _ _ _ (Grow.refl e) (.bl b)⟩
end
end DL

set_option Elab.async false
set_option linter.all false
set_option maxRecDepth 100000
namespace DL
open PySem PySem.Spec PyProof.Rows L2
open Evl (Ex ex_l ex_t fresh_back)

/-! ### what is walked -/
structure Walks (K : PySem.W.Frag) (J : It) (G : Hp) (ds : List Dat) : Prop where
  go : ∀ i G' H, Ex G G' → Ex G' H → i < ds.length → J.go i H
  yld : ∀ i G' H x H' d, Ex G G' → Ex G' H → ds[i]? = some d → J.yld i H x H' → ∃ G'', Grow G' H G'' H' ∧ DR K G'' x d
  stop : ∀ i G' H, Ex G G' → Ex G' H → ds.length ≤ i → J.stop i H
def SemI (K : PySem.W.Frag) (wi : TI) (ρ : List Sl) (ds : List Dat) : Prop :=
  ∀ G0 B0 σ G H, Sat K G0 B0 ρ σ G H → ∀ R : It → Hp → Prop, (∀ J G' H', Grow G H G' H' → Walks K J G' ds → R J H') → wi σ H R
/-- lists, tuples, texts alike -/
def iU (K : PySem.W.Frag) (te : TE) : TI := fun σ H R => te σ H fun x H1 => (∃ a, x = .ref a ∧ (∃ xs, SqL K H1 a xs) ∧ R (Itl K a) H1) ∨ (∃ a, x = .ref a ∧ (∃ xs, SqT K H1 a xs) ∧ R (Itt K a) H1) ∨ (∃ z, x = .str z ∧ R (Its z) H1)
theorem pi_u {X : Cx} {K : PySem.W.Frag} {tg l : Expr} {tl : TE} (hK : X.K = K) (hl : PE X l tl) : PI X tg l (iU K tl) := by
  subst hK
  refine ⟨fun pins s σ H R I h => ?_⟩
  refine thn (hl.run pins s σ H _ I h) fun v s1 ⟨x, H1, I1, r1, q1⟩ => ?_
  rcases q1 with ⟨a, rfl, ⟨xs, hq⟩, q⟩ | ⟨a, rfl, ⟨xs, hq⟩, q⟩ | ⟨z, rfl, q⟩
  · cases r1
    obtain ⟨its, rv, p, hz⟩ := I1.list hq
    exact wpAny_pyIter_list p.isList (pi_one (tk := s1.toks) I1 _ (turn_list a _) ⟨_, Heap.get?_push_size _ rfl, rfl, rfl⟩ q)
  · cases r1
    obtain ⟨its, rv, p, hz⟩ := I1.tuple hq
    exact wpAny_pyIter_tuple (show s1.heap.IsTuple a its.toArray from p) (pi_one (tk := s1.toks) I1 _ (turn_tuple a _) ⟨_, Heap.get?_push_size _ rfl, rfl, rfl⟩ q)
  · obtain ⟨t, rfl⟩ := r1
    cases ha : z.cps.all (· < 128)
    · exact wpAny_pyIter_wide ha (pi_one (tk := s1.toks) I1 _ (turn_str _ z t "str_iterator" (.inr rfl)) ⟨_, Heap.get?_push_size _ rfl, rfl, rfl⟩ q)
    · exact wpAny_pyIter_ascii ha (pi_one (tk := s1.toks) I1 _ (turn_str _ z t "str_ascii_iterator" (.inl rfl)) ⟨_, Heap.get?_push_size _ rfl, rfl, rfl⟩ q)

section
variable {K : PySem.W.Frag} {ρ : List Sl} {t ta tb tc te : TE} {a b c d : Dat}
theorem rd_inj {H : Hp} {p : Addr} {u w : HO} (nu : ∀ o x, u ≠ .frz o x) (nw : ∀ o x, w ≠ .frz o x) (h1 : H p = some u) (h2 : Rd H p w) : u = w := by
  rcases h2 with h2 | ⟨o, h2⟩
  · rw [h1] at h2; exact Option.some.inj h2
  · rw [h1] at h2; exact absurd (Option.some.inj h2) (nu _ _)
theorem walks_list {G : Hp} {p : Addr} {xs : List V} {ds : List Dat} (h : G p = some (.lst xs)) (r : DRs K G xs ds) : Walks K (Itl K p) G ds where
  go := fun i G' H e1 e2 hi => ⟨xs, xs[i]'(by rw [r.length]; exact hi), .inl (.inl (e2 _ _ (e1 _ _ h))), List.getElem?_eq_getElem _⟩
  yld := fun i G' H x H' d e1 e2 hd y => by
    obtain ⟨rfl, y⟩ := y
    obtain ⟨v, h1, h2⟩ := r.at hd
    have h3 := y xs (.inl (.inl (e2 _ _ (e1 _ _ h))))
    rw [h1] at h3
    cases h3
    exact ⟨G', Grow.refl e2, h2.mono e1⟩
  stop := fun i G' H e1 e2 hi => ⟨xs, .inl (.inl (e2 _ _ (e1 _ _ h))), by rw [r.length]; exact hi⟩
theorem walks_scr {G : Hp} {p : Addr} {ns : List Int} (h : SqL K G p (ns.map V.int)) : Walks K (Itl K p) G (ns.map .int) where
  go := fun i G' H e1 e2 hi => ⟨ns.map V.int, (ns.map V.int)[i]'(by rw [List.length_map] at hi ⊢; exact hi), ex_l e2 (ex_l e1 h), List.getElem?_eq_getElem _⟩
  yld := fun i G' H x H' d e1 e2 hd y => by
    obtain ⟨rfl, y⟩ := y
    have h3 := y _ (ex_l e2 (ex_l e1 h))
    rw [List.getElem?_map] at hd h3
    cases z : ns[i]? with
    | none => rw [z] at hd; cases hd
    | some n =>
      rw [z] at hd h3
      cases hd; cases h3
      exact ⟨G', Grow.refl e2, .int n⟩
  stop := fun i G' H e1 e2 hi => ⟨_, ex_l e2 (ex_l e1 h), by rw [List.length_map] at hi ⊢; exact hi⟩
theorem walks_tup {G : Hp} {p : Addr} {xs : List V} {ds : List Dat} (h : SqT K G p xs) (r : DRs K G xs ds) : Walks K (Itt K p) G ds where
  go := fun i G' H e1 e2 hi => ⟨xs, xs[i]'(by rw [r.length]; exact hi), ex_t e2 (ex_t e1 h), List.getElem?_eq_getElem _⟩
  yld := fun i G' H x H' d e1 e2 hd y => by
    obtain ⟨rfl, y⟩ := y
    obtain ⟨v, h1, h2⟩ := r.at hd
    have h3 := y xs (ex_t e2 (ex_t e1 h))
    rw [h1] at h3
    cases h3
    exact ⟨G', Grow.refl e2, h2.mono e1⟩
  stop := fun i G' H e1 e2 hi => ⟨xs, ex_t e2 (ex_t e1 h), by rw [r.length]; exact hi⟩
theorem walks_txt {G : Hp} (cs : List Nat) : Walks K (Its ⟨cs.toArray⟩) G (cs.map fun c => .txt [c]) where
  go := fun i G' H e1 e2 hi => by
    show i < cs.toArray.size
    rw [List.length_map] at hi
    simpa using hi
  yld := fun i G' H x H' d e1 e2 hd y => by
    obtain ⟨rfl, c, h1, rfl⟩ := y
    rw [List.getElem?_map] at hd
    have h2 : cs[i]? = some c := by simpa using h1
    rw [h2] at hd
    cases hd
    exact ⟨G', Grow.refl e2, .txt [c]⟩
  stop := fun i G' H e1 e2 hi => by
    show cs.toArray.size ≤ i
    rw [List.length_map] at hi
    simpa using hi
theorem walks_range {G : Hp} (lo : Int) (n : Nat) : Walks K (Itr lo n) G ((List.range n).map fun k => .int (lo + (k : Nat))) where
  go := fun i G' H e1 e2 hi => by
    rw [List.length_map, List.length_range] at hi
    exact hi
  yld := fun i G' H x H' d e1 e2 hd y => by
    obtain ⟨rfl, rfl⟩ := y
    have hi : i < n := by
      have := (List.getElem?_eq_some_iff.mp hd).1
      rwa [List.length_map, List.length_range] at this
    rw [List.getElem?_map, List.getElem?_range hi] at hd
    cases hd
    exact ⟨G', Grow.refl e2, .int _⟩
  stop := fun i G' H e1 e2 hi => by
    rw [List.length_map, List.length_range] at hi
    exact hi
def itemsD : Dat → Option (List Dat)
  | .lst ds => some ds
  | .tup ds => some ds
  | .txt cs => some (cs.map fun c => .txt [c])
  | .scr ns => some (ns.map .int)
  | _ => none
theorem si_u {ds : List Dat} (h : Sem K te ρ d) (hd : itemsD d = some ds) : SemI K (iU K te) ρ ds := fun G0 B0 σ G H S R q =>
  h _ _ _ _ _ S _ fun x G1 H1 g1 rx => by
    cases rx with
    | lst hl r => cases hd; exact .inl ⟨_, rfl, ⟨_, .inl (.inl (g1.s _ _ hl))⟩, q _ G1 H1 g1 (walks_list hl r)⟩
    | tup hl r => cases hd; exact .inr (.inl ⟨_, rfl, ⟨_, ex_t g1.s hl⟩, q _ G1 H1 g1 (walks_tup hl r)⟩)
    | txt cs => cases hd; exact .inr (.inr ⟨_, rfl, q _ G1 H1 g1 (walks_txt cs)⟩)
    | scr hl => cases hd; exact .inl ⟨_, rfl, ⟨_, ex_l g1.s hl⟩, q _ G1 H1 g1 (walks_scr hl)⟩
    | _ => cases hd
theorem si_range1 {ta : TA} {n : Nat} (h : SemA K ta ρ [.int n]) (hn : n ≤ 1000000000) : SemI K (iRng1 ta) ρ ((List.range n).map fun k => .int ((k : Nat) : Int)) := fun G0 B0 σ G H S R q =>
  h _ _ _ _ _ S _ fun xs G1 H1 g1 rs => by
    cases rs with
    | cons h1 rs =>
      cases rs; cases h1
      refine ⟨(n : Int), rfl, by omega, by omega, ?_⟩
      rw [Int.toNat_natCast]
      have w := walks_range (K := K) (G := G1) 0 n
      simp only [Int.zero_add] at w
      exact q _ G1 H1 g1 w
theorem si_range2 {ta : TA} {lo hi : Int} {n : Nat} (h : SemA K ta ρ [.int lo, .int hi]) (e : (hi - lo).toNat = n) (h1 : -1000000000 ≤ lo) (h2 : lo ≤ 1000000000) (h3 : -1000000000 ≤ hi) (h4 : hi ≤ 1000000000) : SemI K (iRng2 ta) ρ ((List.range n).map fun k => .int (lo + (k : Nat))) := fun G0 B0 σ G H S R q =>
  h _ _ _ _ _ S _ fun xs G1 H1 g1 rs => by
    cases rs with
    | cons k1 rs =>
      cases rs with
      | cons k2 rs =>
        cases rs; cases k1; cases k2
        refine ⟨lo, hi, rfl, ⟨by omega, by omega, by omega, by omega⟩, ?_⟩
        rw [e]
        exact q _ G1 H1 g1 (walks_range lo n)

/-! ### targets -/
def SemG (K : PySem.W.Frag) (g : TG) (d : Dat) (ρ ρ' : List Sl) : Prop :=
  ∀ G0 B0 σ G H v, Sat K G0 B0 ρ σ G H → DR K G v d → ∀ Q : L2.St → Hp → Prop, (∀ σ', Sat K G0 B0 ρ' σ' G H → Q σ' H) → g v σ H Q
def SemGs (K : PySem.W.Frag) (g : TGs) (ds : List Dat) (ρ ρ' : List Sl) : Prop :=
  ∀ G0 B0 σ G H vs, Sat K G0 B0 ρ σ G H → DRs K G vs ds → ∀ Q : L2.St → Hp → Prop, (∀ σ', Sat K G0 B0 ρ' σ' G H → Q σ' H) → g vs σ H Q
theorem sg_name {i : Nat} : SemG K (gName i) d ρ (ρ.set i (.dat d)) := fun G0 B0 σ G H v S r Q q => q _ (S.set r)
theorem sgs_nil : SemGs K gNil [] ρ ρ := fun G0 B0 σ G H v S r Q q => by cases r; exact ⟨rfl, q _ S⟩
theorem sgs_cons {g : TG} {gs : TGs} {ds : List Dat} {ρ1 ρ2 : List Sl} (h1 : SemG K g d ρ ρ1) (h2 : SemGs K gs ds ρ1 ρ2) : SemGs K (gCons g gs) (d :: ds) ρ ρ2 := fun G0 B0 σ G H v S r Q q => by
  cases r with
  | cons r1 r2 => exact ⟨_, _, rfl, h1 _ _ _ _ _ _ S r1 _ fun σ1 S1 => h2 _ _ _ _ _ _ S1 r2 _ q⟩
theorem sg_tup {gs : TGs} {ds : List Dat} {n : Nat} {ρ2 : List Sl} (h : SemGs K gs ds ρ ρ2) (hn : ds.length = n) : SemG K (gTup K n gs) (.tup ds) ρ ρ2 := fun G0 B0 σ G H v S r Q q => by
  cases r with
  | tup hl r => exact ⟨_, _, rfl, ex_t S.gr.s hl, by rw [r.length]; exact hn, h _ _ _ _ _ _ S r _ q⟩

/-! ### comprehensions -/
theorem Sat.forget1 {G0 B0 G H : Hp} {σ : L2.St} {i : Nat} (S : Sat K G0 B0 ρ σ G H) : Sat K G0 B0 (ρ.set i .no) (σ.set i none) G H := S.forget
theorem wipe_set (σ : L2.St) (j : Nat) (x : V) : wipe ((wipe σ [j]).set j (some x)) [j] = wipe σ [j] := by
  show (((σ.set j none).set j (some x)).set j none) = σ.set j none
  rw [List.set_set, List.set_set]
theorem sn_lc {wi : TI} {tt : TT} {j : Nat} {ds : List Dat} (f : Dat → Bool) (g : Dat → Dat) (hi : SemI K wi ρ ds) (hz : ds.length ≤ sizeLine)
    (ht : ∀ d, d ∈ ds → SemT K tt (ρ.set j (.dat d)) (f d)) (he : ∀ d, d ∈ ds → f d = true → Sem K te (ρ.set j (.dat d)) (g d)) :
    SemN K (tLc wi (gName j) tt te [j]) ρ ((ds.filter f).map g) := fun G0 B0 σ G H S Q q =>
  hi _ _ _ _ _ S _ fun J G1 H1 g1 W D hD => by
    have S1 := S.grow g1
    refine ⟨fun i m H' => m = ds.length - i ∧ i ≤ ds.length ∧ ∃ G' acc, Grow G1 H1 G' H' ∧ G' D = none ∧ H' D = some (.lst acc) ∧ DRs K G' acc (((ds.take i).filter f).map g), ⟨ds.length, by omega, Nat.zero_le _, G1, [], Grow.newM g1.s hD, fresh_back g1.s hD, upd_same, .nil⟩, ?_⟩
    rintro i m H' ⟨rfl, hi', G', acc, g2, n2, h2, r2⟩
    have hacc : acc.length ≤ i := by
      rw [r2.length, List.length_map]
      refine Nat.le_trans (List.length_filter_le _ _) ?_
      rw [List.length_take]; omega
    by_cases hlt : i < ds.length
    · have hd : ds[i]? = some ds[i] := List.getElem?_eq_getElem hlt
      have hmem : ds[i] ∈ ds := List.getElem_mem hlt
      refine .inr ⟨W.go i G' H' g2.g g2.s hlt, fun H'' => i + 1 ≤ ds.length ∧ ∃ G' acc, Grow G1 H1 G' H'' ∧ G' D = none ∧ H'' D = some (.lst acc) ∧ DRs K G' acc (((ds.take (i + 1)).filter f).map g), fun H'' p => ⟨ds.length - (i + 1), by omega, rfl, p⟩, fun x H'' hy => ?_⟩
      obtain ⟨G3, g3, rx⟩ := W.yld i G' H' x H'' ds[i] g2.g g2.s hd hy
      have S3 : Sat K G0 B0 (ρ.set j (.dat ds[i])) ((wipe σ [j]).set j (some x)) G3 H'' := by
        have z := (((S1.grow g2).grow g3).forget1 (i := j)).set (i := j) rx
        rw [List.set_set] at z
        exact z
      refine ⟨wipe_set σ j x, ht _ hmem _ _ _ _ _ S3 _ fun G4 H4 g4 => ?_⟩
      have n4 : G4 D = none := (g3.trans g4).m D n2 (by rw [h2]; simp)
      have h4 : H4 D = some (.lst acc) := (g3.trans g4).h _ _ h2
      have et : ds.take (i + 1) = ds.take i ++ [ds[i]] := by rw [List.take_add_one, hd]; rfl
      cases hf : f ds[i] with
      | false =>
        rw [if_neg (by simp)]
        refine ⟨hlt, G4, acc, (g2.trans g3).trans g4, n4, h4, ?_⟩
        rw [et, List.filter_append, List.filter_cons, hf]
        simp only [Bool.false_eq_true, if_false, List.filter_nil, List.append_nil]
        exact r2.mono (g3.trans g4).g
      | true =>
        rw [if_pos rfl]
        refine he _ hmem hf _ _ _ _ _ (S3.grow g4) _ fun y G5 H5 g5 ry => ?_
        have n5 : G5 D = none := g5.m D n4 (by rw [h4]; simp)
        have h5 : H5 D = some (.lst acc) := g5.h _ _ h4
        have gg := ((g2.trans g3).trans g4).trans g5
        refine ⟨acc, h5, by omega, hlt, G5, acc ++ [y], ⟨gg.g, gg.s.mut n5, gg.h.mut hD, gg.m⟩, n5, upd_same, ?_⟩
        rw [et, List.filter_append, List.filter_cons, hf]
        simp only [if_true, List.filter_nil, List.map_append, List.map_cons, List.map_nil]
        exact (r2.mono ((g3.trans g4).trans g5).g).append (.cons ry .nil)
    · have ei : i = ds.length := by omega
      subst ei
      rw [List.take_length] at r2
      exact .inl ⟨W.stop _ G' H' g2.g g2.s (Nat.le_refl _), q D acc G' H' (g1.trans g2) (fresh_back g1.h hD) n2 h2 r2⟩
theorem st_yes : SemT K tYes ρ true := fun G0 B0 σ G H S Q q => q G H (Grow.refl S.gr.s)
/-- without a test -/
theorem sn_lcA {wi : TI} {j : Nat} {ds : List Dat} (g : Dat → Dat) (hi : SemI K wi ρ ds) (hz : ds.length ≤ sizeLine) (he : ∀ d, d ∈ ds → Sem K te (ρ.set j (.dat d)) (g d)) :
    SemN K (tLc wi (gName j) tYes te [j]) ρ (ds.map g) := by
  have h := sn_lc (K := K) (ρ := ρ) (te := te) (tt := tYes) (j := j) (fun _ => true) g hi hz (fun _ _ => st_yes) (fun d hd _ => he d hd)
  rw [List.filter_eq_self.mpr (fun _ _ => rfl)] at h
  exact h

/-! ### statements -/
structure Post where
  nx : List Sl → Prop
  rt : Dat → Prop := fun _ => False
  rn : OD → Prop := fun _ => False
  rm : Dat → List Sl → Prop := fun _ _ => False
  bk : List Sl → Prop := fun _ => False
  ct : List Sl → Prop := fun _ => False
  ex : Addr → List (Str × Dat) → List Sl → Prop := fun _ _ _ => False
/-- what is told of an exception in the air -/
inductive DX (K : PySem.W.Frag) (G : Hp) : Option Addr → List (Str × Dat) → Prop
  | no : DX K G none []
  | fs {d : Addr} {vs : List (Str × V)} {fs : List (Str × Dat)} : G d = some (.xd vs) → DRf K G vs fs → DX K G (some d) fs
theorem DX.mono {K : PySem.W.Frag} {G G' : Hp} {o : Option Addr} {fs : List (Str × Dat)} (e : Ex G G') (h : DX K G o fs) : DX K G' o fs := by
  cases h with
  | no => exact .no
  | fs h r => exact .fs (e _ _ h) (r.mono e)
def SemS (K : PySem.W.Frag) (W : WX) (t : TS) (ρ : List Sl) (P : Post) : Prop :=
  ∀ G0 B0 σ G H (D : Ends), Sat K G0 B0 ρ σ G H → (∀ ρ' σ' G' H', P.nx ρ' → Sat K G0 B0 ρ' σ' G' H' → D.nx σ' H') → ((∀ d v G' H', P.rt d → Grow G0 B0 G' H' → DR K G' v d → D.rt v H') ∧ (∀ o v T G' H', P.rn o → Grow G0 B0 G' H' → OR K G' H' v o T → (∀ a ∈ T, B0 a = none ∧ G' a = none) → D.rt v H') ∧ (∀ d v ρ' σ' G' H', P.rm d ρ' → Sat K G0 B0 ρ' σ' G' H' → DR K G' v d → D.rt v H')) →
    (∀ ρ' σ' G' H', P.bk ρ' → Sat K G0 B0 ρ' σ' G' H' → D.bk σ' H') → (∀ ρ' σ' G' H', P.ct ρ' → Sat K G0 B0 ρ' σ' G' H' → D.ct σ' H') →
    (∀ C fs dd ρ' σ' G' H', P.ex C fs ρ' → Sat K G0 B0 ρ' σ' G' H' → DX K G' dd fs → W (.ref C) dd σ' H') → t D σ H
variable {P : Post} {u w : TS} {W : WX}
theorem ss_seq (h : SemS K W u ρ { P with nx := fun ρ' => SemS K W w ρ' P }) : SemS K W (tSeq u w) ρ P := fun G0 B0 σ G H D S n r b c x =>
  h G0 B0 σ G H { D with nx := w D } S (fun ρ' σ' G' H' p S' => p _ _ _ _ _ D S' n r b c x) r b c x
theorem ss_next (h : P.nx ρ) : SemS K W tNext ρ P := fun G0 B0 σ G H D S n r b c x => n _ _ _ _ h S
theorem ss_brk (h : P.bk ρ) : SemS K W tBreak ρ P := fun G0 B0 σ G H D S n r b c x => b _ _ _ _ h S
theorem ss_cont (h : P.ct ρ) : SemS K W tCont ρ P := fun G0 B0 σ G H D S n r b c x => c _ _ _ _ h S
theorem ss_asgG {g : TG} {ρ' : List Sl} (h : Sem K te ρ d) (hg : SemG K g d ρ ρ') (p : P.nx ρ') : SemS K W (tAsg te g) ρ P := fun G0 B0 σ G H D S n r b c x =>
  h _ _ _ _ _ S _ fun v G1 H1 g1 rv => hg _ _ _ _ _ _ (S.grow g1) rv _ fun σ' S' => n _ _ _ _ p S'
theorem ss_asg {i : Nat} (h : Sem K te ρ d) (p : P.nx (ρ.set i (.dat d))) : SemS K W (tAsg te (gName i)) ρ P := ss_asgG h sg_name p
/-- a new thing that nobody else knows -/
def SemM (K : PySem.W.Frag) (t : TE) (ρ : List Sl) (o : OD) : Prop :=
  ∀ G0 B0 σ G H, Sat K G0 B0 ρ σ G H → ∀ Q : VK, (∀ v T G' H', Grow G H G' H' → OR K G' H' v o T → (∀ a ∈ T, H a = none ∧ G' a = none) → Q v H') → t σ H Q
theorem sm_ofN {ds : List Dat} (h : SemN K te ρ ds) : SemM K te ρ (.pl ds) := fun G0 B0 σ G H S Q q =>
  h _ _ _ _ _ S _ fun p vs G1 H1 g1 hp hg h1 rs => q _ [p] G1 H1 g1 (.pl h1 rs) fun a ha => by
    rcases List.mem_cons.mp ha with z | z
    · rw [z]; exact ⟨hp, hg⟩
    · cases z
theorem sm_dat (h : Sem K te ρ d) : SemM K te ρ (.dat d) := fun G0 B0 σ G H S Q q => h _ _ _ _ _ S _ fun v G1 H1 g1 rv => q v [] G1 H1 g1 (.dat rv) fun a ha => by cases ha
/-- a new thing, told as a datum -/
theorem s_ofM {o : OD} (h : SemM K te ρ o) : Sem K te ρ (frz o) := fun G0 B0 σ G H S Q q =>
  h _ _ _ _ _ S _ fun v T G1 H1 g1 r hT => by
    have eg : Ex G1 (fun a => if a ∈ T then H1 a else G1 a) := fun a u hu => by
      show (if a ∈ T then H1 a else G1 a) = some u
      rw [if_neg (fun z => by rw [(hT a z).2] at hu; cases hu)]
      exact hu
    refine q v (fun a => if a ∈ T then H1 a else G1 a) H1 ⟨g1.g.trans eg, fun a u hu => ?_, g1.h, fun a k1 k2 => ?_⟩ (r.frz eg fun a ha u hu => ?_)
    · have hu : (if a ∈ T then H1 a else G1 a) = some u := hu
      by_cases z : a ∈ T
      · rw [if_pos z] at hu; exact hu
      · rw [if_neg z] at hu; exact g1.s a u hu
    · show (if a ∈ T then H1 a else G1 a) = none
      rw [if_neg (fun z => k2 (hT a z).1)]
      exact g1.m a k1 k2
    · show (if a ∈ T then H1 a else G1 a) = some u
      rw [if_pos ha]; exact hu
/-- x = a new thing, which stays one's own -/
theorem ss_asgM {i : Nat} {o : OD} (h : SemM K te ρ o) (p : P.nx (ρ.set i (.mt o))) : SemS K W (tAsg te (gName i)) ρ P := fun G0 B0 σ G H D S n r b c x =>
  h _ _ _ _ _ S _ fun v T G1 H1 g1 rs hT => n _ _ _ _ p (S.newMut g1 rs hT)
theorem ss_asgN {i : Nat} {ds : List Dat} (h : SemN K te ρ ds) (p : P.nx (ρ.set i (.own ds))) : SemS K W (tAsg te (gName i)) ρ P := ss_asgM (sm_ofN h) p
theorem ss_ret (h : Sem K te ρ d) (p : P.rt d) : SemS K W (tRet te) ρ P := fun G0 B0 σ G H D S n r b c x =>
  h _ _ _ _ _ S _ fun v G1 H1 g1 rv => r.1 _ _ _ _ p (S.gr.trans g1) rv
/-- what is returned is a new thing, or one's own: the caller may change it -/
theorem ss_retNewM {o : OD} (h : SemM K te ρ o) (p : P.rn o) : SemS K W (tRet te) ρ P := fun G0 B0 σ G H D S n r b c x =>
  h _ _ _ _ _ S _ fun v T G1 H1 g1 rs hT => r.2.1 _ _ _ _ _ p (S.gr.trans g1) rs fun a ha => ⟨fresh_back S.gr.h (hT a ha).1, (hT a ha).2⟩
theorem ss_retNew {ds : List Dat} (h : SemN K te ρ ds) (p : P.rn (.pl ds)) : SemS K W (tRet te) ρ P := ss_retNewM (sm_ofN h) p
theorem ss_retOwn {i : Nat} {o : OD} (hi : ρ[i]? = some (.mt o)) (p : P.rn o) : SemS K W (tRet (tVar i)) ρ P := fun G0 B0 σ G H D S n r b c x => by
  obtain ⟨v, T, k1, k2, k3, _⟩ := S.at hi
  exact ⟨_, k1, r.2.1 _ _ _ _ _ p S.gr k2 fun a ha => ⟨(k3 a ha).2, (k3 a ha).1⟩⟩
/-- what is returned, and what is owned then -/
theorem ss_retM (h : Sem K te ρ d) (p : P.rm d ρ) : SemS K W (tRet te) ρ P := fun G0 B0 σ G H D S n r b c x =>
  h _ _ _ _ _ S _ fun v G1 H1 g1 rv => r.2.2 _ _ _ _ _ _ p (S.grow g1) rv
theorem ss_retNM (p : P.rm .non ρ) : SemS K W tRetN ρ P := fun G0 B0 σ G H D S n r b c x => r.2.2 _ _ _ _ _ _ p S .non
theorem ss_retN (p : P.rt .non) : SemS K W tRetN ρ P := fun G0 B0 σ G H D S n r b c x => r.1 _ _ _ _ p S.gr .non
theorem ss_drop (h : Sem K te ρ d) (p : P.nx ρ) : SemS K W (tDrop te) ρ P := fun G0 B0 σ G H D S n r b c x =>
  h _ _ _ _ _ S _ fun v G1 H1 g1 rv => n _ _ _ _ p (S.grow g1)
theorem ss_if {c : TT} {k : Bool} (h : SemT K c ρ k) (h1 : k = true → SemS K W u ρ P) (h2 : k = false → SemS K W w ρ P) : SemS K W (tIfS c u w) ρ P := fun G0 B0 σ G H D S n r b ct x =>
  h _ _ _ _ _ S _ fun G1 H1 g1 => by
    cases k with
    | true => rw [if_pos rfl]; exact h1 rfl _ _ _ _ _ _ (S.grow g1) n r b ct x
    | false => rw [if_neg (by simp)]; exact h2 rfl _ _ _ _ _ _ (S.grow g1) n r b ct x
/-- one's own list is told to others -/
theorem ss_freeze (i : Nat) {ds : List Dat} (hi : ρ[i]? = some (.own ds)) (h : SemS K W u (ρ.set i (.dat (.lst ds))) P) : SemS K W u ρ P := fun G0 B0 σ G H D S n r b c x => by
  obtain ⟨G', S1⟩ := S.freeze hi
  exact h _ _ _ _ _ _ S1 n r b c x
theorem ss_freezeM (i : Nat) {o : OD} (hi : ρ[i]? = some (.mt o)) (h : SemS K W u (ρ.set i (.dat (frz o))) P) : SemS K W u ρ P := fun G0 B0 σ G H D S n r b c x => by
  obtain ⟨G', S1, _⟩ := S.freezeM hi
  exact h _ _ _ _ _ _ S1 n r b c x
/-- xs.append(e) -/
theorem ss_app {i : Nat} {ds : List Dat} (hi : ρ[i]? = some (.own ds)) (h : Sem K te ρ d) (hz : ds.length < sizeLine) (p : P.nx (ρ.set i (.own (ds ++ [d])))) : SemS K W (tDrop (tBM K "list" rAppend (tVar i) (tCons te tNil))) ρ P := fun G0 B0 σ G H D S n r b c x => by
  obtain ⟨p0, vs0, k1, _, _, k4, _⟩ := S.own i ds hi
  refine ⟨.ref p0, k1, .inl ⟨rfl, _, .inl (.inl k4)⟩, h _ _ _ _ _ S _ fun v G1 H1 g1 rv => ?_⟩
  have S1 := S.grow g1
  obtain ⟨p1, vs, l1, l2, l3, l4, l5⟩ := S1.own i ds hi
  have : p0 = p1 := by rw [k1] at l1; simpa using l1
  subst this
  exact ⟨p0, vs, v, rfl, rfl, l4, by rw [l5.length]; exact hz, n _ _ _ _ p (S1.write hi l1 (l5.append (.cons rv .nil)))⟩
/-- n += e -/
theorem ss_augI {i : Nat} {a b : Int} {f : Int → Int → Int} (hi : ρ[i]? = some (.dat (.int a))) (h : Sem K te ρ (.int b)) (p : P.nx (ρ.set i (.dat (.int (f a b))))) : SemS K W (tAug i te (ipI f)) ρ P := fun G0 B0 σ G H D S n r bk c x => by
  obtain ⟨v, k1, k2⟩ := S.dat i _ hi
  refine ⟨v, k1, h _ _ _ _ _ S _ fun y G1 H1 g1 ry => ?_⟩
  cases k2; cases ry
  exact ⟨a, b, rfl, rfl, n _ _ _ _ p ((S.grow g1).set (.int _))⟩
theorem ss_for {wi : TI} {g : TG} {ds : List Dat} (hi : SemI K wi ρ ds) (I : Nat → List Sl → Prop) (h0 : I 0 ρ)
    (hs : ∀ i d ρ1, ds[i]? = some d → I i ρ1 → ∃ ρ2, SemG K g d ρ1 ρ2 ∧ SemS K W u ρ2 { P with nx := I (i + 1), ct := I (i + 1), bk := P.nx }) (hd : ∀ ρ1, I ds.length ρ1 → P.nx ρ1) : SemS K W (tFor wi g u) ρ P := fun G0 B0 σ G H D S n r b c xc =>
  hi _ _ _ _ _ S _ fun J G1 H1 g1 Wk => by
    refine ⟨fun i m σ' H' => m = ds.length - i ∧ i ≤ ds.length ∧ ∃ ρ1 G', Ex G1 G' ∧ I i ρ1 ∧ Sat K G0 B0 ρ1 σ' G' H', ⟨ds.length, by omega, Nat.zero_le _, ρ, G1, Evl.Ex.refl _, h0, S.grow g1⟩, ?_⟩
    rintro i m σ' H' ⟨rfl, hi', ρ1, G', e1, hI, S'⟩
    by_cases hlt : i < ds.length
    · have hd' : ds[i]? = some ds[i] := List.getElem?_eq_getElem hlt
      obtain ⟨ρ2, hg, hb⟩ := hs i ds[i] ρ1 hd' hI
      refine .inr ⟨Wk.go i G' H' e1 S'.gr.s hlt, fun σ2 H2 => i + 1 ≤ ds.length ∧ ∃ ρ1 G', Ex G1 G' ∧ I (i + 1) ρ1 ∧ Sat K G0 B0 ρ1 σ2 G' H2, fun σ2 H2 p => ⟨ds.length - (i + 1), by omega, rfl, p⟩, fun x H2 hy => ?_⟩
      obtain ⟨G3, g3, rx⟩ := Wk.yld i G' H' x H2 ds[i] e1 S'.gr.s hd' hy
      refine hg _ _ _ _ _ _ (S'.grow g3) rx _ fun σ3 S3 => ?_
      -- the frozen part at the loop's start stays frozen: G0 := the same with G1's objects
      have S4 : Sat K G3 B0 ρ2 σ3 G3 H2 := ⟨⟨Evl.Ex.refl _, S3.gr.s, S3.gr.h, fun a h _ => h⟩, S3.len, S3.dat, S3.fp⟩
      have back : ∀ {ρ' σ' G' H'}, Sat K G3 B0 ρ' σ' G' H' → Sat K G0 B0 ρ' σ' G' H' := fun {ρ' σ' G' H'} S5 =>
        ⟨⟨S3.gr.g.trans S5.gr.g, S5.gr.s, S5.gr.h, fun a h1 h2 => S5.gr.m a (S3.gr.m a h1 h2) h2⟩, S5.len, S5.dat, S5.fp⟩
      refine hb _ _ _ _ _ _ S4 (fun ρ' σ' G' H' p S5 => ⟨hlt, ρ', G', (e1.trans g3.g).trans S5.gr.g, p, back S5⟩) ⟨fun d v G' H' p g5 rv => r.1 d v G' H' p ⟨S3.gr.g.trans g5.g, g5.s, g5.h, fun a h1 h2 => g5.m a (S3.gr.m a h1 h2) h2⟩ rv, fun o v T G' H' p1 g5 k1 k2 => r.2.1 o v T G' H' p1 ⟨S3.gr.g.trans g5.g, g5.s, g5.h, fun a h1 h2 => g5.m a (S3.gr.m a h1 h2) h2⟩ k1 k2, fun d v ρ' σ' G' H' p1 S5 rv => r.2.2 d v ρ' σ' G' H' p1 (back S5) rv⟩
        (fun ρ' σ' G' H' p S5 => n ρ' σ' G' H' p (back S5)) (fun ρ' σ' G' H' p S5 => ⟨hlt, ρ', G', (e1.trans g3.g).trans S5.gr.g, p, back S5⟩)
        (fun C fs dd ρ' σ' G' H' p S5 hx => xc C fs dd ρ' σ' G' H' p (back S5) hx)
    · have ei : i = ds.length := by omega
      subst ei
      exact .inl ⟨Wk.stop _ G' H' e1 S'.gr.s (Nat.le_refl _), n _ _ _ _ (hd _ hI) S'⟩
theorem ss_while {c : TT} (I : Nat → List Sl → Prop) (m0 : Nat) (h0 : I m0 ρ)
    (hs : ∀ m ρ1, I m ρ1 → ∃ k, SemT K c ρ1 k ∧ (k = true → SemS K W u ρ1 { P with nx := fun ρ2 => ∃ m', m' < m ∧ I m' ρ2, ct := fun ρ2 => ∃ m', m' < m ∧ I m' ρ2, bk := P.nx }) ∧ (k = false → P.nx ρ1)) : SemS K W (tWhile c u) ρ P := fun G0 B0 σ G H D S n r b ct x => by
  refine ⟨fun m σ' H' => ∃ ρ1 G', I m ρ1 ∧ Sat K G0 B0 ρ1 σ' G' H', ⟨m0, ρ, G, h0, S⟩, ?_⟩
  rintro m σ' H' ⟨ρ1, G', hI, S'⟩
  obtain ⟨k, hc, h1, h2⟩ := hs m ρ1 hI
  refine hc _ _ _ _ _ S' _ fun G1 H1 g1 => ?_
  cases k with
  | true =>
    rw [if_pos rfl]
    refine ⟨fun σ2 H2 => ∃ ρ2 G2, (∃ m', m' < m ∧ I m' ρ2) ∧ Sat K G0 B0 ρ2 σ2 G2 H2, ?_, ?_⟩
    · rintro σ2 H2 ⟨ρ2, G2, ⟨m', hm, hI'⟩, S2⟩
      exact ⟨m', hm, ρ2, G2, hI', S2⟩
    · exact h1 rfl _ _ _ _ _ _ (S'.grow g1) (fun ρ' σ' G' H' p S5 => ⟨ρ', G', p, S5⟩) r (fun ρ' σ' G' H' p S5 => n ρ' σ' G' H' p S5) (fun ρ' σ' G' H' p S5 => ⟨ρ', G', p, S5⟩) x
  | false => rw [if_neg (by simp)]; exact n _ _ _ _ (h2 rfl) (S'.grow g1)
/-- what is reached is weakened -/
theorem ss_mono {P' : Post} (h : SemS K W u ρ P') (h1 : ∀ ρ', P'.nx ρ' → P.nx ρ') (h2 : ∀ d, P'.rt d → P.rt d) (h3 : ∀ ρ', P'.bk ρ' → P.bk ρ') (h4 : ∀ ρ', P'.ct ρ' → P.ct ρ') (h5 : ∀ C fs ρ', P'.ex C fs ρ' → P.ex C fs ρ') (h6 : ∀ o, P'.rn o → P.rn o := by exact fun _ h => h) (h7 : ∀ d ρ', P'.rm d ρ' → P.rm d ρ' := by exact fun _ _ h => h) : SemS K W u ρ P := fun G0 B0 σ G H D S n r b c x =>
  h _ _ _ _ _ _ S (fun ρ' σ' G' H' p => n _ _ _ _ (h1 _ p)) ⟨fun d v G' H' p => r.1 _ _ _ _ (h2 _ p), fun o v T G' H' p1 => r.2.1 _ _ _ _ _ (h6 _ p1), fun d v ρ' σ' G' H' p1 => r.2.2 _ _ _ _ _ _ (h7 _ _ p1)⟩ (fun ρ' σ' G' H' p => b _ _ _ _ (h3 _ p)) (fun ρ' σ' G' H' p => c _ _ _ _ (h4 _ p)) (fun C fs dd ρ' σ' G' H' p => x _ _ _ _ _ _ _ (h5 _ _ _ p))
end

/-! ### defs -/
/-- the slots at a def's start -/
def slots (n : Nat) (ds : List Dat) : List Sl := ds.map .dat ++ List.replicate (n - ds.length) .no
theorem sat_start {K : PySem.W.Frag} {N : List Str} {vs : List V} {ds : List Dat} {G H : Hp} (e : Ex G H) (r : DRs K G vs ds) : Sat K G H (slots N.length ds) (L2.start N vs) G H := by
  have hl := r.length
  refine ⟨Grow.refl e, ?_, fun i d h => ?_, fun _ => [], fun i d h => ?_, fun i j o o' n h1 h2 a ha => by cases ha⟩
  · unfold slots L2.start
    simp [hl]
  · unfold slots at h
    unfold L2.start
    by_cases hi : i < ds.length
    · rw [List.getElem?_append_left (by simpa using hi), List.getElem?_map] at h
      cases z : ds[i]? with
      | none => rw [z] at h; cases h
      | some d' =>
        rw [z] at h
        cases h
        obtain ⟨v, h1, h2⟩ := r.at z
        refine ⟨v, ?_, h2⟩
        rw [List.getElem?_append_left (by simpa [hl] using hi), List.getElem?_map, h1]
        rfl
    · rw [List.getElem?_append_right (by simpa using hi)] at h
      rw [List.getElem?_replicate] at h
      split at h <;> cases h
  · unfold slots at h
    by_cases hi : i < ds.length
    · rw [List.getElem?_append_left (by simpa using hi), List.getElem?_map] at h
      cases z : ds[i]? with
      | none => rw [z] at h; cases h
      | some d' => rw [z] at h; cases h
    · rw [List.getElem?_append_right (by simpa using hi)] at h
      rw [List.getElem?_replicate] at h
      split at h <;> cases h
/-- a def of the module that keeps a promise -/
structure GD (P : Program) (w : World) (K : PySem.W.Frag) (mg : Str → Option Value) (base : Heap) (k : Nat) (x : Str) (ps : List Str) (sp : Sp) : Prop where
  ex : ∃ f fd, FnOk P w K mg base CX0 k f fd ps sp ∧ mg x = some (.ref f) ∧ PySem.W.keepIn K (.ref f) = true ∧ Binds K fd ps []
section
variable {X : Cx} {x : Str} {p pos : Pos} {e : Expr} {es : List Expr} {t : TA} {k : Nat} {ps : List Str} {sp : Sp}
theorem pe_gd (h : GD X.prog X.w X.K X.mg X.base k x ps sp) (hr : Room k X.A) (hg : Gl X x) (ha : PA X (e :: es) t) (hdb : (x == ("__debug__" : Str)) = false := by decide)
    (he : starEach (e :: es) X.env = (false, eval e X.env) :: starEach es X.env := by rfl) (hpl : (backTo pos (starEach es X.env)).any (·.1) = false := by rfl) : PE X (.Call (.Name x p) (e :: es) [] pos) (tCall sp [] E0 t) := by
  obtain ⟨f, fd, F, hm, hk, hb⟩ := h.ex
  exact pe_call F hr hg hm hk hb .nil pass0 ha hdb he hpl
theorem pe_gd0 (h : GD X.prog X.w X.K X.mg X.base k x ps sp) (hr : Room k X.A) (hg : Gl X x) (hdb : (x == ("__debug__" : Str)) = false := by decide) : PE X (.Call (.Name x p) [] [] pos) (tCall sp [] E0 tNil) := by
  obtain ⟨f, fd, F, hm, hk, hb⟩ := h.ex
  exact pe_call0 F hr hg hm hk hb .nil pass0 hdb
end
section
variable {P : Program} {w : World} {K : PySem.W.Frag} {mg : Str → Option Value} {base : Heap}
theorem GD.mono {j k : Nat} {x : Str} {ps : List Str} {sp : Sp} (h : GD P w K mg base j x ps sp) (hj : j ≤ k) : GD P w K mg base k x ps sp := by
  obtain ⟨f, fd, F, r⟩ := h.ex
  exact ⟨f, fd, F.mono hj, r⟩
/-- THE RULE for a def told by data: its reading T, that the body has it, what it yields -/
theorem fn_d {x qual : Str} {st : Stmt} {f : Addr} {fd : FuncData} {N ps : List Str} {k : Nat} {R : List Dat → Dat → Prop} {T : TS} (F : Fun K x qual st f fd) (S : FnScope N ps (defScope st))
    (hlen : ∀ ds d, R ds d → ds.length = ps.length)
    (hp : ∀ (cdv : Value) (A : Around) (outer : List Env) (s : Shared) (H : Hp) (E : XK), Room k (A.deeper (envOfC qual (defScope st) s.heap.objs.size f cdv)) → PSs (cxOf CX0 P w K mg base N qual (defScope st) f cdv A outer s H E).nox (defBody st) T)
    (hs : ∀ ds d, R ds d → SemS K (fun _ _ _ _ => False) T (slots N.length ds) { nx := fun _ => d = .non, rt := fun d' => d' = d }) : FnOk P w K mg base CX0 (k + 1) f fd ps (spD K R) := by
  refine F.ok S (fun vs H Q E h => ?_) (fun cdv A outer s H vs Q E hr h => ?_)
  · obtain ⟨G, ds, d, e, r, hR, q⟩ := h
    rw [r.length]
    exact hlen ds d hR
  · obtain ⟨G, ds, d, e, r, hR, q⟩ := h
    refine ⟨T, hp cdv A outer s H E hr, hs ds d hR G H _ G H _ (sat_start e r) (fun ρ' σ' G' H' h S' => ?_) ⟨fun d' v G' H' h g rv => ?_, fun _ _ _ _ _ h _ _ _ => h.elim, fun _ _ _ _ _ _ h _ _ => h.elim⟩ (fun _ _ _ _ h _ => h.elim) (fun _ _ _ _ h _ => h.elim) (fun _ _ _ _ _ _ _ h _ _ => h.elim)⟩
    · cases h
      exact q _ _ _ S'.gr .non
    · cases h
      exact q _ _ _ g rv
theorem gd_of {x qual : Str} {st : Stmt} {f : Addr} {fd : FuncData} {N ps : List Str} {k : Nat} {R : List Dat → Dat → Prop} {T : TS} (F : Fun K x qual st f fd) (hm : mg x = some (.ref f)) (hb : Binds K fd ps []) (S : FnScope N ps (defScope st))
    (hlen : ∀ ds d, R ds d → ds.length = ps.length)
    (hp : ∀ (cdv : Value) (A : Around) (outer : List Env) (s : Shared) (H : Hp) (E : XK), Room k (A.deeper (envOfC qual (defScope st) s.heap.objs.size f cdv)) → PSs (cxOf CX0 P w K mg base N qual (defScope st) f cdv A outer s H E).nox (defBody st) T)
    (hs : ∀ ds d, R ds d → SemS K (fun _ _ _ _ => False) T (slots N.length ds) { nx := fun _ => d = .non, rt := fun d' => d' = d }) : GD P w K mg base (k + 1) x ps (spD K R) :=
  ⟨f, fd, fn_d F S hlen hp hs, hm, F.kp, hb⟩
end
end DL

set_option Elab.async false
set_option linter.all false
set_option maxRecDepth 100000
namespace DL
open PySem PySem.Spec PyProof.Rows L2
open Evl (Ex ex_l ex_t fresh_back)

/-! ### methods of texts -/
def uSplit : V → List V → Hp → VK → Prop := fun x xs H Q => ∃ a b, x = .str a ∧ xs = [.str b] ∧ (b.length == 0) = false ∧ a.length + 2 ≤ sizeLine ∧ rNewStrs (Txt.split a b) H Q
def uJoin (K : PySem.W.Frag) : V → List V → Hp → VK → Prop := fun x xs H Q => ∃ a p, ∃ ys : List Str, x = .str a ∧ xs = [.ref p] ∧ (SqL K H p (ys.map V.str) ∨ SqT K H p (ys.map V.str)) ∧ (ys.map (·.length)).sum + ys.length * a.length ≤ 16777216 ∧ Q (.str (Txt.join a ys)) H
def uStarts3 : V → List V → Hp → VK → Prop := fun x xs H Q => ∃ (a b : Str) (i : Int), x = .str a ∧ xs = [.str b, .int i] ∧ Q (.bl (Txt.startswith3 a b i)) H
def uFind3 : V → List V → Hp → VK → Prop := fun x xs H Q => ∃ (a b : Str) (i : Int), x = .str a ∧ xs = [.str b, .int i] ∧ Q (.int (Txt.find3 a b i)) H
section
variable {X : Cx} {K : PySem.W.Frag} {o e : Expr} {es : List Expr} {to te : TE} {ta : TA} {apos pos : Pos}
theorem pe_usplit (ho : PE X o to) (he : PE X e te) (hs : starEach [e] X.env = [(false, eval e X.env)] := by rfl) (hbase : attributeBase o "split" X.env (eval o X.env) = eval o X.env := by rfl) (hline : (apos.endLine == pos.line) = true := by rfl) :
    PE X (.Call (.Attribute o "split" apos) [e] [] pos) (tM1 uSplit to te) := pe_split ho he hs hbase hline
theorem pe_ujoin (hK : X.K = K) (ho : PE X o to) (he : PE X e te) (hs : starEach [e] X.env = [(false, eval e X.env)] := by rfl) (hbase : attributeBase o "join" X.env (eval o X.env) = eval o X.env := by rfl) (hline : (apos.endLine == pos.line) = true := by rfl) :
    PE X (.Call (.Attribute o "join" apos) [e] [] pos) (tM1 (uJoin K) to te) := by
  subst hK
  exact pe_join ho he hs hbase hline
end
def joinL (a : List Nat) : List (List Nat) → List Nat
  | [] => []
  | [x] => x
  | x :: y :: r => x ++ a ++ joinL a (y :: r)
theorem join_strL (a : List Nat) : ∀ ys : List (List Nat), Str.join (strL a) (ys.map strL) = strL (joinL a ys)
  | [] => rfl
  | [x] => rfl
  | x :: y :: r => by
    have ih := join_strL a (y :: r)
    show strL x ++ strL a ++ Str.join (strL a) ((y :: r).map strL) = strL (x ++ a ++ joinL a (y :: r))
    rw [ih, strL_app, strL_app]
section
variable {K : PySem.W.Frag} {ρ : List Sl} {t ta tb tc te : TE} {a b c d : Dat}
theorem ofStrs {G : Hp} : ∀ ys : List Str, DRs K G (ys.map V.str) (ys.map fun s => .txt s.cps.toList)
  | [] => .nil
  | y :: r => .cons (.ofStr y) (ofStrs r)
theorem ms_split {a b : List Nat} (hb : b ≠ []) (ha : a.length ≤ 16000000) : MtS K uSplit (.txt a) [.txt b] (.lst ((Txt.split (strL a) (strL b)).map fun s => .txt s.cps.toList)) := fun x xs G H e rx rs Q q => by
  cases rx
  cases rs with
  | cons h r =>
    cases r; cases h
    refine ⟨_, _, rfl, rfl, ?_, ?_, fun p hp => q _ _ _ (Grow.new e hp) (.lst upd_same (ofStrs _))⟩
    · rw [← strL, strL_len]
      cases b with
      | nil => exact absurd rfl hb
      | cons c r => rfl
    · rw [← strL, strL_len]
      unfold sizeLine
      omega
theorem ms_join {a : List Nat} {ys : List (List Nat)} (hz : (ys.map (·.length)).sum + ys.length * a.length ≤ 16777216) : MtS K (uJoin K) (.txt a) [.lst (ys.map .txt)] (.txt (joinL a ys)) := fun x xs G H e rx rs Q q => by
  cases rx
  cases rs with
  | cons h r =>
    cases r
    cases h with
    | lst hl r =>
      have z := r.txts
      subst z
      refine ⟨_, _, ys.map strL, rfl, rfl, .inl (.inl (.inl (e _ _ hl))), ?_, ?_⟩
      · rw [← strL, strL_len, List.length_map, List.map_map]
        have e2 : ((fun s : Str => s.length) ∘ strL) = fun l : List Nat => l.length := by
          funext l
          exact strL_len l
        rw [e2]
        exact hz
      · rw [← strL, show Txt.join (strL a) (ys.map strL) = Str.join (strL a) (ys.map strL) from StrLaws.glued_eq_join _ _, join_strL]
        exact q _ _ _ (Grow.refl e) (.txt _)
theorem ms_joinM {α : Type} {a : List Nat} {xs : List α} {f : α → List Nat} (hz : ((xs.map f).map (·.length)).sum + xs.length * a.length ≤ 16777216) : MtS K (uJoin K) (.txt a) [.lst (xs.map fun x => .txt (f x))] (.txt (joinL a (xs.map f))) := by
  have h := ms_join (K := K) (a := a) (ys := xs.map f) (by rw [List.length_map]; exact hz)
  rw [List.map_map] at h
  exact h
theorem s_dnew : Sem K tDNewK ρ (.dct []) := fun G0 B0 σ G H S Q q p hp => q _ _ _ (Grow.new S.gr.s hp) (.dct upd_same .nil)
/-! ### comprehensions over a list that is made of something -/
theorem sn_lcF {α : Type} {wi : TI} {tt : TT} {j : Nat} {enc : α → Dat} {xs : List α} {f : α → Bool} {g : α → Dat} (hi : SemI K wi ρ (xs.map enc)) (hz : xs.length ≤ sizeLine)
    (ht : ∀ x, x ∈ xs → SemT K tt (ρ.set j (.dat (enc x))) (f x)) (he : ∀ x, x ∈ xs → f x = true → Sem K te (ρ.set j (.dat (enc x))) (g x)) :
    SemN K (tLc wi (gName j) tt te [j]) ρ ((xs.filter f).map g) := fun G0 B0 σ G H S Q q =>
  hi _ _ _ _ _ S _ fun J G1 H1 g1 W D hD => by
    have S1 := S.grow g1
    have hl : (xs.map enc).length = xs.length := List.length_map _
    refine ⟨fun i m H' => m = xs.length - i ∧ i ≤ xs.length ∧ ∃ G' acc, Grow G1 H1 G' H' ∧ G' D = none ∧ H' D = some (.lst acc) ∧ DRs K G' acc (((xs.take i).filter f).map g), ⟨xs.length, by omega, Nat.zero_le _, G1, [], Grow.newM g1.s hD, fresh_back g1.s hD, upd_same, .nil⟩, ?_⟩
    rintro i m H' ⟨rfl, hi', G', acc, g2, n2, h2, r2⟩
    have hacc : acc.length ≤ i := by
      rw [r2.length, List.length_map]
      refine Nat.le_trans (List.length_filter_le _ _) ?_
      rw [List.length_take]; omega
    by_cases hlt : i < xs.length
    · have hx : xs[i]? = some xs[i] := List.getElem?_eq_getElem hlt
      have hd : (xs.map enc)[i]? = some (enc xs[i]) := by rw [List.getElem?_map, hx]; rfl
      have hmem : xs[i] ∈ xs := List.getElem_mem hlt
      refine .inr ⟨W.go i G' H' g2.g g2.s (by omega), fun H'' => i + 1 ≤ xs.length ∧ ∃ G' acc, Grow G1 H1 G' H'' ∧ G' D = none ∧ H'' D = some (.lst acc) ∧ DRs K G' acc (((xs.take (i + 1)).filter f).map g), fun H'' p => ⟨xs.length - (i + 1), by omega, rfl, p⟩, fun x H'' hy => ?_⟩
      obtain ⟨G3, g3, rx⟩ := W.yld i G' H' x H'' (enc xs[i]) g2.g g2.s hd hy
      have S3 : Sat K G0 B0 (ρ.set j (.dat (enc xs[i]))) ((wipe σ [j]).set j (some x)) G3 H'' := by
        have z := (((S1.grow g2).grow g3).forget1 (i := j)).set (i := j) rx
        rw [List.set_set] at z
        exact z
      refine ⟨wipe_set σ j x, ht _ hmem _ _ _ _ _ S3 _ fun G4 H4 g4 => ?_⟩
      have n4 : G4 D = none := (g3.trans g4).m D n2 (by rw [h2]; simp)
      have h4 : H4 D = some (.lst acc) := (g3.trans g4).h _ _ h2
      have et : xs.take (i + 1) = xs.take i ++ [xs[i]] := by rw [List.take_add_one, hx]; rfl
      cases hf : f xs[i] with
      | false =>
        rw [if_neg (by simp)]
        refine ⟨hlt, G4, acc, (g2.trans g3).trans g4, n4, h4, ?_⟩
        rw [et, List.filter_append, List.filter_cons, hf]
        simp only [Bool.false_eq_true, if_false, List.filter_nil, List.append_nil]
        exact r2.mono (g3.trans g4).g
      | true =>
        rw [if_pos rfl]
        refine he _ hmem hf _ _ _ _ _ (S3.grow g4) _ fun y G5 H5 g5 ry => ?_
        have n5 : G5 D = none := g5.m D n4 (by rw [h4]; simp)
        have h5 : H5 D = some (.lst acc) := g5.h _ _ h4
        have gg := ((g2.trans g3).trans g4).trans g5
        refine ⟨acc, h5, by omega, hlt, G5, acc ++ [y], ⟨gg.g, gg.s.mut n5, gg.h.mut hD, gg.m⟩, n5, upd_same, ?_⟩
        rw [et, List.filter_append, List.filter_cons, hf]
        simp only [if_true, List.filter_nil, List.map_append, List.map_cons, List.map_nil]
        exact (r2.mono ((g3.trans g4).trans g5).g).append (.cons ry .nil)
    · have ei : i = xs.length := by omega
      subst ei
      rw [List.take_length] at r2
      exact .inl ⟨W.stop _ G' H' g2.g g2.s (by omega), q D acc G' H' (g1.trans g2) (fresh_back g1.h hD) n2 h2 r2⟩
theorem sn_lcM {α : Type} {wi : TI} {j : Nat} {enc : α → Dat} {xs : List α} {g : α → Dat} (hi : SemI K wi ρ (xs.map enc)) (hz : xs.length ≤ sizeLine)
    (he : ∀ x, x ∈ xs → Sem K te (ρ.set j (.dat (enc x))) (g x)) : SemN K (tLc wi (gName j) tYes te [j]) ρ (xs.map g) := by
  have h := sn_lcF (K := K) (ρ := ρ) (te := te) (tt := tYes) (j := j) (f := fun _ => true) (g := g) hi hz (fun _ _ => st_yes) (fun x hx _ => he x hx)
  rw [List.filter_eq_self.mpr (fun _ _ => rfl)] at h
  exact h
theorem cs_allM {α : Type} {xs : List α} {p : α → Bool} : CallS K (rAll K) [.lst (xs.map fun x => .bl (p x))] (.bl (xs.all p)) := by
  have h := cs_all (K := K) (bs := xs.map p)
  rw [List.map_map, List.all_map] at h
  exact h
theorem st_test {te : TE} {k : Bool} (h : Sem K te ρ (.bl k)) : SemT K (tTest te) ρ k := fun G0 B0 σ G H S Q q => h _ _ _ _ _ S _ fun x G1 H1 g1 rx => by
  cases rx
  exact ⟨k, rfl, q _ _ g1⟩
/-! ### += -/
def uIpAdd : TIp := fun x y H Q => (∃ i j, x = .int i ∧ y = .int j ∧ Q (.int (i + j)) H) ∨ rExt2 x y H Q ∨ (∃ i j, x = .str i ∧ y = .str j ∧ i.length + j.length ≤ sizeLine ∧ Q (.str (i ++ j)) H)
theorem ipu_add {X : Cx} : PIp X .Add uIpAdd := by
  intro pins s σ H x y v u Q I rx ry h
  rcases h with h | h | h
  · exact ip_add pins s σ H x y v u Q I rx ry h
  · exact iop_ext pins s σ H x y v u Q I rx ry h
  · exact iop_add_str pins s σ H x y v u Q I rx ry h
variable {P : Post} {W : WX}
theorem ss_plus {i : Nat} {a b : Int} (hi : ρ[i]? = some (.dat (.int a))) (h : Sem K te ρ (.int b)) (p : P.nx (ρ.set i (.dat (.int (a + b))))) : SemS K W (tAug i te uIpAdd) ρ P := fun G0 B0 σ G H D S n r bk c x => by
  obtain ⟨v, k1, k2⟩ := S.dat i _ hi
  refine ⟨v, k1, h _ _ _ _ _ S _ fun y G1 H1 g1 ry => ?_⟩
  cases k2; cases ry
  exact .inl ⟨a, b, rfl, rfl, n _ _ _ _ p ((S.grow g1).set (.int _))⟩
/-- xs += a list -/
theorem ss_ext {i : Nat} {ds es : List Dat} (hi : ρ[i]? = some (.own ds)) (h : Sem K te ρ (.lst es)) (hz : ds.length + es.length ≤ sizeLine) (p : P.nx (ρ.set i (.own (ds ++ es)))) : SemS K W (tAug i te uIpAdd) ρ P := fun G0 B0 σ G H D S n r b c x => by
  obtain ⟨p0, vs0, k1, _, _, k4, _⟩ := S.own i ds hi
  refine ⟨.ref p0, k1, h _ _ _ _ _ S _ fun v G1 H1 g1 rv => ?_⟩
  have S1 := S.grow g1
  obtain ⟨p1, vs, l1, l2, l3, l4, l5⟩ := S1.own i ds hi
  have : p0 = p1 := by rw [k1] at l1; simpa using l1
  subst this
  cases rv with
  | lst hl r =>
    refine .inr (.inl ⟨p0, _, vs, _, rfl, rfl, l4, S1.gr.s _ _ hl, by rw [l5.length, r.length]; exact hz, n _ _ G1 _ p ?_⟩)
    have z := S1.write hi l1 (l5.append r)
    have e : σ.set i (some (.ref p0)) = σ := by
      apply List.ext_getElem?
      intro m
      by_cases q : i = m
      · subst q
        rw [List.getElem?_set_self', k1]
        rfl
      · rw [List.getElem?_set_ne q]
    rw [e]
    exact z
end
end DL
namespace DL
open PySem PySem.Spec PyProof.Rows L2
open Evl (Ex ex_l ex_t fresh_back)
section
variable {K : PySem.W.Frag} {ρ : List Sl}
theorem si_range1Z {ta : TA} {z : Int} (h : SemA K ta ρ [.int z]) (h0 : 0 ≤ z) (hn : z ≤ 1000000000) : SemI K (iRng1 ta) ρ ((List.range z.toNat).map fun k => .int ((k : Nat) : Int)) := by
  have e : z = ((z.toNat : Nat) : Int) := (Int.toNat_of_nonneg h0).symm
  rw [e] at h
  exact si_range1 h (by omega)
theorem os_in2 {a x y : List Nat} : OpS K (uIn K) (.txt a) (.tup [.txt x, .txt y]) (.bl (decide (a ∈ [x, y]))) := os_inTT (bs := [x, y])
theorem os_in3 {a x y z : List Nat} : OpS K (uIn K) (.txt a) (.tup [.txt x, .txt y, .txt z]) (.bl (decide (a ∈ [x, y, z]))) := os_inTT (bs := [x, y, z])
theorem os_notin2 {a x y : List Nat} : OpS K (uNotIn K) (.txt a) (.tup [.txt x, .txt y]) (.bl (!decide (a ∈ [x, y]))) := os_notinTT (bs := [x, y])
end
theorem atI_getD {α : Type} {xs : List α} {i : Int} (d : α) (h0 : 0 ≤ i) (h1 : i < xs.length) : atI xs i = some (xs.getD i.toNat d) := by
  have e : i = ((i.toNat : Nat) : Int) := (Int.toNat_of_nonneg h0).symm
  have hl : i.toNat < xs.length := by omega
  have z : xs[i.toNat]? = some (xs.getD i.toNat d) := by
    rw [List.getElem?_eq_getElem hl, List.getD_eq_getElem?_getD, List.getElem?_eq_getElem hl]
    rfl
  have w := atI_nat z
  rw [← e] at w
  exact w
theorem atI_mapD {α β : Type} (f : α → β) {xs : List α} {i : Int} (d : α) (h0 : 0 ≤ i) (h1 : i < xs.length) : atI (xs.map f) i = some (f (xs.getD i.toNat d)) := atI_map f (atI_getD d h0 h1)
theorem cutL_len {α : Type} (xs : List α) (lo hi : Option Int) : (cutL xs lo hi).length ≤ xs.length := by
  unfold cutL
  rw [List.length_take, List.length_drop]
  omega
theorem sum_len_le {α : Type} (f : α → List Nat) (m : Nat) : ∀ xs : List α, (∀ x ∈ xs, (f x).length ≤ m) → ((xs.map f).map (·.length)).sum ≤ xs.length * m
  | [], _ => Nat.zero_le _
  | x :: r, h => by
    have h1 := h x List.mem_cons_self
    have h2 := sum_len_le f m r fun y hy => h y (List.mem_cons_of_mem _ hy)
    rw [List.map_cons, List.map_cons, List.sum_cons, List.length_cons, Nat.succ_mul]
    show (f x).length + _ ≤ _
    omega
end DL
namespace DL
open PySem PySem.Spec PyProof.Rows L2
theorem kb_NoneType_str : kitB "NoneType" "str" = some false := by decide +kernel
theorem kb_NoneType_bool : kitB "NoneType" "bool" = some false := by decide +kernel
theorem kb_NoneType_int : kitB "NoneType" "int" = some false := by decide +kernel
theorem kb_NoneType_list : kitB "NoneType" "list" = some false := by decide +kernel
theorem kb_NoneType_tuple : kitB "NoneType" "tuple" = some false := by decide +kernel
theorem kb_NoneType_dict : kitB "NoneType" "dict" = some false := by decide +kernel
theorem kb_bool_str : kitB "bool" "str" = some false := by decide +kernel
theorem kb_bool_bool : kitB "bool" "bool" = some true := by decide +kernel
theorem kb_bool_int : kitB "bool" "int" = some true := by decide +kernel
theorem kb_bool_list : kitB "bool" "list" = some false := by decide +kernel
theorem kb_bool_tuple : kitB "bool" "tuple" = some false := by decide +kernel
theorem kb_bool_dict : kitB "bool" "dict" = some false := by decide +kernel
theorem kb_int_str : kitB "int" "str" = some false := by decide +kernel
theorem kb_int_bool : kitB "int" "bool" = some false := by decide +kernel
theorem kb_int_int : kitB "int" "int" = some true := by decide +kernel
theorem kb_int_list : kitB "int" "list" = some false := by decide +kernel
theorem kb_int_tuple : kitB "int" "tuple" = some false := by decide +kernel
theorem kb_int_dict : kitB "int" "dict" = some false := by decide +kernel
theorem kb_str_str : kitB "str" "str" = some true := by decide +kernel
theorem kb_str_bool : kitB "str" "bool" = some false := by decide +kernel
theorem kb_str_int : kitB "str" "int" = some false := by decide +kernel
theorem kb_str_list : kitB "str" "list" = some false := by decide +kernel
theorem kb_str_tuple : kitB "str" "tuple" = some false := by decide +kernel
theorem kb_str_dict : kitB "str" "dict" = some false := by decide +kernel
theorem kb_list_str : kitB "list" "str" = some false := by decide +kernel
theorem kb_list_bool : kitB "list" "bool" = some false := by decide +kernel
theorem kb_list_int : kitB "list" "int" = some false := by decide +kernel
theorem kb_list_list : kitB "list" "list" = some true := by decide +kernel
theorem kb_list_tuple : kitB "list" "tuple" = some false := by decide +kernel
theorem kb_list_dict : kitB "list" "dict" = some false := by decide +kernel
theorem kb_tuple_str : kitB "tuple" "str" = some false := by decide +kernel
theorem kb_tuple_bool : kitB "tuple" "bool" = some false := by decide +kernel
theorem kb_tuple_int : kitB "tuple" "int" = some false := by decide +kernel
theorem kb_tuple_list : kitB "tuple" "list" = some false := by decide +kernel
theorem kb_tuple_tuple : kitB "tuple" "tuple" = some true := by decide +kernel
theorem kb_tuple_dict : kitB "tuple" "dict" = some false := by decide +kernel
theorem kb_dict_str : kitB "dict" "str" = some false := by decide +kernel
theorem kb_dict_bool : kitB "dict" "bool" = some false := by decide +kernel
theorem kb_dict_int : kitB "dict" "int" = some false := by decide +kernel
theorem kb_dict_list : kitB "dict" "list" = some false := by decide +kernel
theorem kb_dict_tuple : kitB "dict" "tuple" = some false := by decide +kernel
theorem kb_dict_dict : kitB "dict" "dict" = some true := by decide +kernel
theorem s_ty {K : PySem.W.Frag} {ρ : List Sl} {n : String} : Sem K (tC (.ty n)) ρ (.ty n) := s_c fun _ => .ty n
end DL

set_option Elab.async false
set_option linter.all false
set_option maxRecDepth 100000
set_option maxHeartbeats 1000000
/-! DLe: exceptions: raised with fields or none, caught and kept. -/
namespace DL
open PySem PySem.Spec PyProof.Rows L2
open Evl (Ex ex_l ex_t fresh_back)
section
variable {X : Cx} {pins : List (Addr × Obj)} {σ : L2.St} {H : Hp} {s : Shared}
/-- an exception's object that stood out of sight is tracked -/
theorem keepExc {a : Addr} {oe : Obj} {fv : Array Value} {cls : Value} {d : Option Addr} (I : Inv X pins σ H s) (ha : s.heap.get? a = some oe) (hz : Zc cls d oe) (hd : oe.data = .fields fv) (na : H a = none)
    (nL : a ≠ X.env.locals) (n0 : X.s_0.heap.get? a = none) (np : ∀ p ∈ X.pn ++ pins, p.1 ≠ a) (nc : ∀ y c, X.env.cells.lookup y = some c → c ≠ a) : Inv X pins σ (upd H a (exv a cls d)) s := by
  have ne : ∀ {b : Addr} {o : HO}, H b = some o → b ≠ a := fun {b o} q => ne_of_none q na
  refine ⟨I.ok, I.os, I.bare, ⟨I.base.keep, I.base.slot, fun b o q n hx => ?_, I.base.there, fun b ys q => ?_, fun b o u q => ?_, fun b ps q => ?_⟩, I.loc, I.cell, ?_, fun y c e => ?_, fun p hp => ?_, fun b o q => ?_, I.len⟩
  · have nb : b ≠ a := fun z => by
      rw [z, n0] at q
      cases q
    rw [upd_ne nb]
    exact I.base.free b o q n hx
  · have z := I.base.tups b ys q
    rw [upd_ne (ne z)]
    exact z
  · have z := I.base.frzs b o u q
    rw [upd_ne (ne z)]
    exact z
  · obtain ⟨more, z⟩ := I.base.tbls b ps q
    exact ⟨more, by rw [upd_ne (ne z)]; exact z⟩
  · rw [upd_ne nL.symm]
    exact I.free
  · rw [upd_ne (nc y c e)]
    exact I.freeC y c e
  · obtain ⟨h1, h2, h3⟩ := I.pin p hp
    exact ⟨h1, by rw [upd_ne (np p hp)]; exact h2, h3⟩
  · by_cases hb : b = a
    · subst hb
      rw [upd_same] at q
      cases q
      exact ⟨⟨oe, fv, ha, hz, hd⟩, ⟨oe, ha⟩, fun h1 h2 z k => by
        obtain ⟨o2, v2, e2, z2, d2⟩ := z
        exact ⟨o2, v2, k _ e2, z2, d2⟩⟩
    · rw [upd_ne hb] at q
      exact (I.hok b o q).stay (fun _ _ _ z => z) (fun c z => by rw [upd_ne (ne z)]; exact z) (fun c ys z => by rw [upd_ne (ne z)]; exact z)
theorem toSuite (I : Inv X pins σ H s) (a : Addr) : Inv (X.suite a (X.pn ++ pins)) [] σ H s :=
  ⟨I.ok.suite _ _, I.os, I.bare, I.base, I.loc, I.cell, I.free, I.freeC, fun p hp => I.pin p (by rw [List.append_nil] at hp; exact hp), I.hok, I.len⟩
theorem ofSuite {a : Addr} {pn' : List (Addr × Obj)} (I : Inv (X.suite a (X.pn ++ pins)) pn' σ H s) (ok : X.Ok) : Inv X pins σ H s :=
  ⟨ok, I.os, I.bare, I.base, I.loc, I.cell, I.free, I.freeC, fun p hp => I.pin p (List.mem_append_left _ hp), I.hok, I.len⟩
end
/-- what 'except c as n' wishes of an exception of the body: slot i is n's; the exception is kept -/
def wK (K : PySem.W.Frag) (c : Value) (i : Nat) (ts : TS) (Wout : WX) (D : Ends) : WX := fun cls d σ H =>
  ∃ b, PySem.W.exmOne K cls c = some b ∧ (b = true → ∀ a, H a = none → ts { nx := fun σ' H' => D.nx (σ'.set i none) H', rt := D.rt, bk := fun σ' H' => D.bk (σ'.set i none) H', ct := fun σ' H' => D.ct (σ'.set i none) H' } (σ.set i (some (.ref a))) (upd H a (exv a cls d))) ∧
    (b = false → Wout cls d σ H)
def tTry (K : PySem.W.Frag) (c : Value) (i : Nat) (tb : WX → TS) (ts : TS) (Wout : WX) : TS := fun D σ H => tb (wK K c i ts Wout D) D σ H
section
variable {X : Cx} {K : PySem.W.Frag} {x n : Str} {c : Value} {i : Nat} {body suite : List Stmt} {b₀ : Stmt} {np pos pos' : Pos} {tb : WX → TS} {ts : TS} {Wout : WX}
theorem ps_tryK (hK : X.K = K) (hst : X.stack = X.env :: X.outer) (hfm : X.env.frame = some X.env.locals) (hex : X.ex = []) (hN : X.N.Nodup) (hi : X.N[i]? = some n) (hln : X.env.kindOf n = some .local) (hc : Names X x c) (tk : Takes X Wout)
    (hb : ∀ (W : WX) (pn : List (Addr × Obj)) (xe : Value → Shared → Prop), Takes (X.tr pn xe) W → PassesOwn (model X.prog X.w) X.A X.env xe → PSs (X.tr pn xe) body (tb W))
    (hsu : ∀ (a : Addr) (pn : List (Addr × Obj)), PSs (X.suite a pn) (b₀ :: suite) ts) :
    PS X (.Try body [.ExceptHandler (some (.Name x np)) (some n) (b₀ :: suite) pos'] [] [] pos) (tTry K c i tb ts Wout) := by
  subst hK
  refine ⟨fun pins s σ H D I hw => ?_⟩
  have ok := I.ok
  have frm : X.A.frames = some (X.env :: X.outer) := ok.frames.trans (congrArg some hst)
  refine wpAny_Try_except ?_
  refine wpAny_mono ((hb (wK X.K c i ts Wout D) (X.pn ++ pins) (fun e s₁ => wpAny (model X.prog X.w) X.A (noteFrame e X.env) (fun _ s₂ => wpAny (model X.prog X.w) X.A (setFlight e none) (fun _ s₃ =>
    wpAny (model X.prog X.w) X.A (handleBy e X.env [.ExceptHandler (some (.Name x np)) (some n) (b₀ :: suite) pos']) (SP X pins D) X.xe s₃) X.xe s₂) X.xe s₁) (fun u s' air => ?_) PassesOwn.looking).run [] s σ H D (I.toTry _) hw) (fun f s1 hsp => ?_) (fun e s1 he => he)
  · obtain ⟨a, B, sI, pins', σ', H', cls, d, rfl, J', nb, up, sky, na, os, ag, b, hb1, hyes, hno⟩ := air
    have J : Inv X pins σ' H' sI := J'.ofTry ok
    rw [show (X.tr (X.pn ++ pins) _).stack = X.env :: X.outer from hst] at sky
    show wpAny (model X.prog X.w) X.A (noteFrame (.ref a) X.env) _ _ _
    refine Sky.land Zc.steady frm hfm sky fun h3 fl3 up3 => ?_
    have J3 : Inv X pins σ' H' { s' with heap := h3 } := J.landed nb fl3.1 (up.trans up3) os ag
    obtain ⟨oe3, vs3, he3, hz3, hd3⟩ := fl3.there
    have nfr : a ∉ frs (X.env :: X.outer) := fun hm => by
      obtain ⟨_, o', e', hnf⟩ := fl3.2.2.1.mem hm
      rw [he3] at e'
      cases e'
      exact hnf _ hd3
    have nL : a ≠ X.env.locals := fun z => nfr (List.mem_filterMap.mpr ⟨X.env, List.mem_cons_self, by rw [hfm, z]⟩)
    have gone : sI.heap.get? a = none := by
      cases q : sI.heap.get? a with
      | none => rfl
      | some o =>
        have z := nb a o q (by rw [show (X.tr (X.pn ++ pins) _).stack = X.env :: X.outer from hst]; exact nfr)
        rw [fl3.2.1] at z
        cases z
    have n0 : X.s_0.heap.get? a = none := by
      cases q : X.s_0.heap.get? a with
      | none => rfl
      | some o =>
        obtain ⟨o', z⟩ := J.base.there a o q (by rw [hex]; simp)
        rw [gone] at z
        cases z
    have npn : ∀ p ∈ X.pn ++ pins, p.1 ≠ a := fun p hp z => by
      have w := (J.pin p hp).1
      rw [z, gone] at w
      cases w
    have ncl : ∀ y c, X.env.cells.lookup y = some c → c ≠ a := fun y c e z => by
      obtain ⟨v, w⟩ := J.cell y c e
      rw [z] at w
      obtain ⟨o, w1, _⟩ := w
      rw [gone] at w1
      cases w1
    have S3 : Inv (X.suite a (X.pn ++ pins)) [] σ' H' { s' with heap := h3 } := toSuite J3 a
    refine wpAny_handleBy_cons (codeAny_handlers_test ?_) (by intro q; cases q)
    have LT : PySem.W.Looks (model X.prog X.w) h3 (typeOf (.ref a)) cls := fun A Q E s k q => wpAny_typeOf_ref (k _ _ he3) (by rw [hz3.1]; exact q)
    have LM := PySem.W.exm_one (M := model X.prog X.w) (J3.kIn) LT hb1
    have asked : ∀ {Q : Value → Shared → Prop} {E : Value → Shared → Prop}, Q c { s' with heap := h3 } → wpAny (model X.prog X.w) (X.A.mark (some (.ref a))) (eval (.Name x np) X.env) Q E { s' with heap := h3 } := fun {Q E} q => by
      obtain ⟨hg, hdbg, hm | ⟨hm, hv, hnn⟩⟩ := hc
      · exact ld_glob (X := X.suite a (X.pn ++ pins)) S3 hg hm q hdbg
      · exact ld_blt (X := X.suite a (X.pn ++ pins)) S3 hg hm hv q hnn hdbg
    refine asked (LM.here ?_)
    cases b with
    | true =>
      refine codeAny_handlers_suite_as ?_
      refine HandSPX.lands_againZ fl3 fun h4 fl4 up4 => ?_
      have J4 : Inv X pins σ' H' { s' with heap := h4 } := J.landed nb fl4.1 ((up.trans up3).trans up4) os ag
      obtain ⟨oe4, vs4, he4, hz4, hd4⟩ := fl4.there
      have K4 := toSuite (keepExc J4 he4 hz4 hd4 na nL n0 npn ncl) a
      refine store_ok (X := X.suite a (X.pn ++ pins)) (v := .ref a) K4 hN hi (.inl hln) rfl (fun s5 S5 => ?_) (.inr hln)
      refine wpAny_mono ((hsu a (X.pn ++ pins)).run [] s5 _ _ _ S5 (hyes rfl a na)) (fun f s6 hsp => ?_) (fun _ _ z => False.elim z)
      have leave : ∀ {σ6 : L2.St} {H6 : Hp} {Q : Shared → Prop}, Inv (X.suite a (X.pn ++ pins)) [] σ6 H6 s6 → (∀ s7, Inv X pins (σ6.set i none) H6 s7 → Q s7) →
          wpAny (model X.prog X.w) X.A (do bindName X.env n .none; unbindBehindTheSuite X.env n pos') (fun _ s7 => Q s7) X.xe s6 := fun {σ6 H6 Q} S6 hq => gone_ok (ofSuite S6 ok) hN hi hln hq
      cases f with
      | next =>
        obtain ⟨σ6, H6, S6, q6⟩ := hsp
        exact leave S6 fun s7 J7 => ⟨_, _, J7, q6⟩
      | brk =>
        obtain ⟨σ6, H6, S6, q6⟩ := hsp
        exact leave S6 fun s7 J7 => ⟨_, _, J7, q6⟩
      | cont =>
        obtain ⟨σ6, H6, S6, q6⟩ := hsp
        exact leave S6 fun s7 J7 => ⟨_, _, J7, q6⟩
      | ret u =>
        obtain ⟨v6, σ6, H6, S6, r6, q6⟩ := hsp
        exact leave S6 fun s7 J7 => ⟨_, _, _, J7, r6, q6⟩
    | false =>
      show wpAny _ X.A (handleBy (.ref a) X.env []) _ _ _
      refine wpAny_handleBy_nil ?_
      obtain ⟨k1, k2, k3, oe, vs, T, oT, ts', he, hz, hd, h1, hr⟩ := id fl3
      unfold PySem.passOn
      refine wpAny_bind (wpAny_field he hd h1 ?_)
      rw [if_neg (show ¬ ((Value.ref T == Value.none) = true) from by simp)]
      have fin : wpAny (model X.prog X.w) X.A (setFlight (.ref a) X.env.frame) (fun _ s4 => wpAny (model X.prog X.w) X.A (throw (.ref a) : PySem.Sem Flow) (SP X pins D) X.xe s4) X.xe { s' with heap := h3 } := by
        rw [hfm]
        refine HandSPX.setFlight_upZ fl3 fun h4 hh4 up4 => wpAny_throw (tk _ _ ?_)
        exact ⟨a, B, sI, pins, σ', H', cls, d, rfl, J, nb, (up.trans up3).trans up4, .inr (.inr (by rw [hst]; exact hh4)), na, os, ag, hno rfl⟩
      first
        | exact wpAny_bind (wpAny_pure (wpAny_bind fin))
        | exact wpAny_bind fin
  · cases f with
    | next =>
      obtain ⟨σ', H', J', q⟩ := hsp
      exact wpAny_execs_nil ⟨σ', H', J'.ofTry ok, q⟩
    | brk =>
      obtain ⟨σ', H', J', q⟩ := hsp
      exact ⟨σ', H', J'.ofTry ok, q⟩
    | cont =>
      obtain ⟨σ', H', J', q⟩ := hsp
      exact ⟨σ', H', J'.ofTry ok, q⟩
    | ret u =>
      obtain ⟨v, σ', H', J', r, q⟩ := hsp
      exact ⟨v, σ', H', J'.ofTry ok, r, q⟩
end
end DL

set_option Elab.async false
set_option linter.all false
set_option maxRecDepth 100000
set_option maxHeartbeats 1000000
/-! DLf: attributes, isinstance of objects and exceptions, exceptions made, the same told by data. -/
namespace PySem.W
open PySem.Calls PyProof.Rows
/-- isinstance asks an exception with or without a dict for its class -/
theorem dl_class {K : Frag} {prog : Program} {w : World} {A : Around} {E : Value → Shared → Prop} {s : Shared} {D x : Addr} {ox : Obj} {od : Option Obj} {Q : Option Value → Shared → Prop} (C : L2.ExcC K D)
    (X : K.In s.heap) (I : InstAt s.heap x ox D od) (h : Q (some (.ref D)) { s with toks := s.toks + 1 }) : wpAny (model prog w) A (getAttr? (.ref x) "__class__") Q E s := by
  have hf : findObj K D od "__class__" = some (.bind (.builtin "getset_descriptor.__get__") (.builtin "object.__class__")) := by
    obtain ⟨cd, hc, _⟩ := any_some C.hd
    unfold findObj
    rw [hc, Option.bind_some, C.ha, Option.bind_some]
    simp [C.hn, C.ht]
  obtain ⟨hp, g, dr, t, os⟩ := s
  have T0 := I.type (M := model prog w)
  have T1 := looks_findIn (M := model prog w) X C.hg
  have T2 := looks_findIn (M := model prog w) X C.hk
  have T3 := looks_find (M := model prog w) X I hf
  have isx : Looks (model prog w) hp (isInstance (.ref x) (.type "BaseException")) true := T0.andThen (looks_subIn X C.hs)
  have c0 : (false && onTheHeap (Value.builtin "BaseException.__getattribute__")) = false := rfl
  have c1 : (onTheHeap (Value.ref D) && Value.builtin "BaseException.__getattribute__" == Value.builtin "object.__getattribute__") = false := by
    rw [show (Value.builtin "BaseException.__getattribute__" == Value.builtin "object.__getattribute__") = false from by decide +kernel]
    rfl
  unfold getAttr? getAttrBy? getAttrBy
  refine wpAny_bind (wpAny_mkText (wpAny_bind (wpAny_attempt (wpAny_holding (wpAny_bind (T0.at (wpAny_bind (T1.at ?_))))))))
  show wpAny _ _ (if (onTheHeap (Value.ref D) && Value.builtin "BaseException.__getattribute__" == Value.builtin "object.__getattribute__") = true then _ else _) _ _ _
  rw [c1, if_neg Bool.false_ne_true]
  unfold getAttrByItsOwn hookBefore
  refine wpAny_bind ?_
  rw [if_pos (show onTheHeap (Value.ref D) = true from rfl)]
  refine T2.at (wpAny_bind (wpAny_attempt (wpAny_holding ?_)))
  unfold callGetattribute
  rw [c0, if_neg Bool.false_ne_true]
  unfold boundAndCalled
  rw [PySem.F.excAttr_ValueError.ga.bind (.ref x)]
  refine wpAny_bind (wpAny_pure ?_)
  show wpAny _ _ (call (.builtin "BaseException.__getattribute__") [.ref x, .str "__class__" t]) _ _ _
  refine wpAny_call (codeAny_call_builtin PySem.F.excAttr_ValueError.ga.plain PySem.F.entry_bexc_ga ?_)
  refine @check_slot (model prog w) _ _ ⟨hp, g, dr, t + 1, os⟩ "BaseException.__getattribute__" "BaseException" "__getattribute__" (.ref x) [.str "__class__" t] [] _ (by decide +kernel) (by decide +kernel) isx (PySem.F.args_bexc_ga (.ref x) (.str "__class__" t)) ?_
  unfold Builtin.«object.__getattribute__»
  refine wpAny_bind (wpAny_of_eq (a := ((Value.ref x : Value), [Value.str "__class__" t])) (by first | rfl | (simp only [slotArgs]; rfl)) ?_)
  refine wpAny_bind (wpAny_pure (wpAny_bind (T0.at (wpAny_bind (T3.at ?_)))))
  show wpAny _ _ (holding [Value.builtin "object.__class__"] (call (.builtin "getset_descriptor.__get__") [.builtin "object.__class__", .ref x, .ref D]) >>= ret) _ _ _
  refine wpAny_bind (wpAny_holding (wpAny_call (class_get (s := ⟨hp, g, dr, t + 1, os⟩) (ox := ox) (od := od) X I C.hm (wpAny_pure ?_))))
  show wpAny _ _ (handedOut (.ref D)) _ _ _
  rw [handedOut_of (v := .ref D) rfl]
  first
    | exact wpAny_pure (wpAny_pure h)
    | exact wpAny_pure h
    | exact wpAny_pure (wpAny_bind (wpAny_pure (wpAny_pure h)))
theorem dl_kit {K : Frag} {D x : Addr} {ox : Obj} {od : Option Obj} (C : L2.ExcC K D) : KitX K (.ref x) (.ref D) (fun h => InstAt h x ox D od) where
  ty := fun _ _ _ I => I.type
  it := fun _ _ X _ => by
    obtain ⟨cd, hc, _⟩ := any_some C.hd
    unfold clsIn at hc
    split at hc
    · rename_i ho
      intro A' Q' E' s' k q
      unfold isType loadHead
      exact wpAny_bind (wpAny_loadPart (k _ _ (X _ _ ho)) (wpAny_pure q))
    · cases hc
  ne := fun h tp dd its n sl X htp => by
    obtain ⟨cd, hc, _⟩ := any_some C.hd
    refine Bool.eq_false_iff.mpr fun q => ?_
    have e : D = tp := Value.ref.inj (beq_iff_eq.mp q)
    subst e
    unfold clsIn at hc
    split at hc
    · rename_i ho
      have z := (X _ _ ho).symm.trans htp
      cases z
    · cases hc
  ca := fun X I k => dl_class C X I k
end PySem.W
namespace DL
open PySem PySem.Spec PyProof.Rows L2
open Evl (Ex ex_l ex_t fresh_back)
/-! ### attributes -/
/-- a field of an instance, of a kept exception -/
def uFld (K : PySem.W.Frag) (f : Str) : V → Hp → VK → Prop := fun x H Q => (∃ a C dx fs v, x = .ref a ∧ H a = some (.ins C dx fs) ∧ Cls K C ∧ NoAttr K C f ∧ fs.lookup f = some v ∧ Q v H) ∨
  (∃ a C dd fs v, x = .ref a ∧ H a = some (exv a (.ref C) (some dd)) ∧ XfC K C ∧ PySem.W.findIn K (.ref C) f = some none ∧ H dd = some (.xd fs) ∧ fs.lookup f = some v ∧ Q v H)
def tAt (K : PySem.W.Frag) (f : Str) (te : TE) : TE := fun σ H Q => te σ H fun x H1 => uFld K f x H1 Q
section
variable {X : Cx} {K : PySem.W.Frag} {e : Expr} {te : TE} {f : Str} {pos : Pos}
theorem pe_at (hK : X.K = K) (he : PE X e te) (hb : attributeBase e f X.env (eval e X.env) = eval e X.env := by rfl) : PE X (.Attribute e f pos) (tAt K f te) := by
  subst hK
  refine ⟨fun pins s σ H Q I hw => attr_of hb (thn (he.run pins s σ H _ I hw) fun u s1 got => ?_)⟩
  obtain ⟨x, H1, I1, rx, hx⟩ := got
  rcases hx with ⟨a, C, dx, fs, v, rfl, ea, c, n, l, q⟩ | ⟨a, C, dd, fs, v, rfl, ea, T, hno, ed, l, q⟩
  · obtain rfl : u = Value.ref a := rx
    exact getattr_ok I1 ea c n l fun u' s2 I2 ru => ⟨v, H1, I2, ru, q⟩
  · obtain rfl : u = Value.ref a := rx
    have oa : ObjOk X.prog X.w H1 s1.heap a (exv a (.ref C) (some dd)) := I1.hok a _ ea
    obtain ⟨⟨oe, vs, ho, hz, hd⟩, _⟩ := (show (∃ oe vs, s1.heap.get? a = some oe ∧ Zc (.ref C) (some dd) oe ∧ oe.data = .fields vs) ∧ _ from oa)
    obtain ⟨mA, hns, hr⟩ := (show ObjOk X.prog X.w H1 s1.heap dd (.xd fs) from I1.hok dd _ ed)
    obtain ⟨od, hod, hl⟩ := lookIn_ns hns
    obtain ⟨w, hu, ru⟩ := RelO.some_of (v := v) (o := mA f) (by rw [← l]; exact hr f)
    have J : PySem.W.InstAt s1.heap a oe C (some od) := ⟨ho, hz.1, by unfold PySem.W.notCls; rw [hd] <;> rfl, by rw [hz.2]; exact hod⟩
    exact HandSPX.exc_get I1.kIn J T.ga T.gg T.exC (PySem.W.findObj_own T.hdC hno rfl (by rw [hl, hu])) (handed_of ru) ⟨v, H1, I1.tok _, ru, q⟩
end
/-! ### isinstance -/
/-- of all values that TyX knows, of kept exceptions; one class -/
def uIsi (K : PySem.W.Frag) : List V → Hp → VK → Prop := fun xs H Q => rIsi K xs H Q ∨
  (∃ (a D : Addr) (d : Option Addr) (c : V) (u : Value) (b : Bool), xs = [.ref a, c] ∧ ClsV c u ∧ H a = some (exv a (.ref D) d) ∧ (∀ dd, d = some dd → ∃ fs, H dd = some (.xd fs)) ∧ ExcC K D ∧ PySem.W.kitOne K (.ref D) u = some b ∧ Q (.bl b) H) ∨
  (∃ (x : V) (tp : Addr) (cs : List V) (t : Value) (us : List Value) (b : Bool), xs = [x, .ref tp] ∧ SqT K H tp cs ∧ Paired ClsV cs us ∧ TyX K H x t ∧ PySem.W.kitAny K t us = some b ∧ Q (.bl b) H)
theorem cu_isiU {X : Cx} {K : PySem.W.Frag} (hK : X.K = K) : CallR X (.builtin "isinstance") (uIsi K) := by
  subst hK
  intro pins s σ H xs us Q I r hw
  rcases hw with hw | ⟨a, D, d, c, cv, b, rfl, hc, ea, hd, C, e, q⟩ | ⟨x, tp, cs, t, ws, b, rfl, hT, k, ty, e, q⟩
  · exact call_isi pins s σ H xs us Q I r hw
  · cases r with
    | cons rx rr =>
      cases rr with
      | cons rt rr =>
        cases rr
        cases rx
        have ec := hc.eq rt
        subst ec
        have oa : ObjOk X.prog X.w H s.heap a (exv a (.ref D) d) := I.hok a _ ea
        obtain ⟨⟨oe, vs, ho, hz, hv⟩, _⟩ := (show (∃ oe vs, s.heap.get? a = some oe ∧ Zc (.ref D) d oe ∧ oe.data = .fields vs) ∧ _ from oa)
        have J : ∃ od, PySem.W.InstAt s.heap a oe D od := by
          cases d with
          | none => exact ⟨none, ho, hz.1, by unfold PySem.W.notCls; rw [hv] <;> rfl, by rw [hz.2]; trivial⟩
          | some dd =>
            obtain ⟨fs, ed⟩ := hd dd rfl
            obtain ⟨mA, hns, hr⟩ := (show ObjOk X.prog X.w H s.heap dd (.xd fs) from I.hok dd _ ed)
            obtain ⟨od, hod, hl⟩ := lookIn_ns hns
            exact ⟨some od, ho, hz.1, by unfold PySem.W.notCls; rw [hv] <;> rfl, by rw [hz.2]; exact hod⟩
        obtain ⟨od, J⟩ := J
        exact PySem.W.kia_one (PySem.W.dl_kit C) I.kIn J e (fun z => nomatch z) fun tk => ⟨.bl b, H, I.kept (t' := tk) fun _ _ z => z, rfl, q⟩
  · obtain ⟨u1, u2, rfl, r1, r2⟩ := vals2 r
    cases (show u2 = Value.ref tp from r2)
    obtain ⟨P, Z, p, hx⟩ := kit_of I r1 ty
    obtain ⟨its, rv, ⟨o, h1, h2, n, h3⟩, _⟩ := I.tuple hT
    have e3 := ClsV.all k rv
    subst e3
    obtain ⟨oc, od, dt, sl⟩ := o
    simp only at h2 h3
    subst h2 h3
    exact PySem.W.kia_tup Z I.kIn p h1 e hx fun tk => ⟨.bl b, H, I.tok tk, rfl, q⟩
/-! ### the base class's __init__ -/
section
variable {X : Cx} {K : PySem.W.Frag} {e : Expr} {es : List Expr} {ta : TA} {x : Str} {p1 p2 pos : Pos} {G : Addr} {mc : Value}
theorem pe_baseinit {pl : PySem.Sem Bool} (hK : X.K = K) (hg : Gl X x) (hm : X.mg x = some (.ref G)) (rd : PySem.W.readsIn K G mc = true) (ga : PySem.W.specialIn K (.ref G) "__getattribute__" = some (some (.builtin "type.__getattribute__"))) (hv : PySem.W.findCls K (.ref G) mc "__init__" = some (.val (.builtin "ValueError.__init__"))) (ha : PA X (e :: es) ta)
    (hc : eval (.Call (.Attribute (.Name x p1) "__init__" p2) (e :: es) [] pos) X.env = (do
      let ov ← eval (.Name x p1) X.env
      standAt p2.atName
      let (f, first) ← holding [ov] (getMethod ov "__init__" pl)
      callWith pos f first (backTo pos (starEach (e :: es) X.env)) (backToKw pos (keywordEach [] X.env))) := by rfl)
    (he : starEach (e :: es) X.env = (false, eval e X.env) :: starEach es X.env := by rfl) (hpl : (backTo pos (starEach es X.env)).any (·.1) = false := by rfl) (hdb : (x == ("__debug__" : Str)) = false := by decide) :
    PE X (.Call (.Attribute (.Name x p1) "__init__" p2) (e :: es) [] pos) (tVeI K ta) := by
  subst hK
  refine ⟨fun pins s σ H Q I hw => PySem.W.methodCall_KW (ld_glob I hg hm ?_ hdb) hc⟩
  refine PySem.W.method_cls I.kIn ga (PySem.W.cls_value I.kIn rd hv (by decide +kernel) ?_)
  show wpAny _ _ (callWith pos (Value.builtin "ValueError.__init__") [] (backTo pos (starEach (e :: es) X.env)) []) _ _ _
  refine PyProof.Rows.callWith_method1 (thn (ha.run pos pins _ σ H _ (I.tok _) hw) fun us s1 got => ?_) he hpl
  obtain ⟨vs, H1, I1, r1, a, C, ws, ev, hl, T, ea, q⟩ := got
  subst ev
  cases r1 with
  | @cons _ u0 _ ur ra rw' =>
    obtain rfl : u0 = Value.ref a := ra
    refine oinit_ok T I1 ea ?_ fun s' J => ⟨.non, H1, J, rfl, q⟩
    rw [← Paired.length rw', sizeLine_eq]
    omega
end
/-! ### what is told of an exception -/
inductive Out where
  | val (d : Dat) | exc (C : Addr) (fs : List (Str × Dat)) | mt (o : OD)
abbrev Out.new (ds : List Dat) : Out := .mt (.pl ds)
def spO (K : PySem.W.Frag) (R : List Dat → Out → Prop) : Sp := fun vs H Q E => ∃ G ds, Ex G H ∧ DRs K G vs ds ∧
  ((∃ d, R ds (.val d) ∧ ∀ v G' H', Grow G H G' H' → DR K G' v d → Q v H') ∨ (∃ C fs, R ds (.exc C fs) ∧ ∀ dd G' H', Grow G H G' H' → DX K G' dd fs → E (.ref C) dd H') ∨
  (∃ o, R ds (.mt o) ∧ ∀ v T G' H', Grow G H G' H' → OR K G' H' v o T → (∀ a ∈ T, H a = none ∧ G' a = none) → Q v H'))
/-- an expression raises -/
def SemX (K : PySem.W.Frag) (W : WX) (t : TE) (ρ : List Sl) (C : Addr) (fs : List (Str × Dat)) : Prop :=
  ∀ G0 B0 σ G H, Sat K G0 B0 ρ σ G H → ∀ Q : VK, (∀ dd G' H', Grow G H G' H' → DX K G' dd fs → W (.ref C) dd σ H') → t σ H Q
def SemXA (K : PySem.W.Frag) (W : WX) (t : TA) (ρ : List Sl) (C : Addr) (fs : List (Str × Dat)) : Prop :=
  ∀ G0 B0 σ G H, Sat K G0 B0 ρ σ G H → ∀ Q : List V → Hp → Prop, (∀ dd G' H', Grow G H G' H' → DX K G' dd fs → W (.ref C) dd σ H') → t σ H Q
/-- a def of the module that may raise -/
structure GX (P : Program) (w : World) (K : PySem.W.Frag) (mg : Str → Option Value) (base : Heap) (k : Nat) (x : Str) (ps : List Str) (sp : Sp) : Prop where
  ex : ∃ f fd, FnOk P w K mg base (L2.CX P w) k f fd ps sp ∧ mg x = some (.ref f) ∧ PySem.W.keepIn K (.ref f) = true ∧ Binds K fd ps []
theorem GX.mono {P : Program} {w : World} {K : PySem.W.Frag} {mg : Str → Option Value} {base : Heap} {j k : Nat} {x : Str} {ps : List Str} {sp : Sp} (h : GX P w K mg base j x ps sp) (hj : j ≤ k) : GX P w K mg base k x ps sp := by
  obtain ⟨f, fd, F, r⟩ := h.ex
  exact ⟨f, fd, F.mono hj, r⟩
section
variable {X : Cx} {x : Str} {p pos : Pos} {e : Expr} {es : List Expr} {t : TA} {k : Nat} {ps : List Str} {sp : Sp} {W : WX}
/-- called where what it raises is wished for -/
theorem pe_gx (h : GX X.prog X.w X.K X.mg X.base k x ps sp) (tk : Takes X W) (hr : Room k X.A) (hg : Gl X x) (ha : PA X (e :: es) t) (hdb : (x == ("__debug__" : Str)) = false := by decide)
    (he : starEach (e :: es) X.env = (false, eval e X.env) :: starEach es X.env := by rfl) (hpl : (backTo pos (starEach es X.env)).any (·.1) = false := by rfl) : PE X (.Call (.Name x p) (e :: es) [] pos) (tCallSD sp [] (WE W) t) := by
  obtain ⟨f, fd, F, hm, hk, hb⟩ := h.ex
  exact pe_callSD F hr hg hm hk hb .nil (fun σ => passAt tk σ) ha hdb he hpl
/-- called where it raises nothing -/
theorem pe_gx0 (h : GX X.prog X.w X.K X.mg X.base k x ps sp) (hr : Room k X.A) (hg : Gl X x) (ha : PA X (e :: es) t) (hdb : (x == ("__debug__" : Str)) = false := by decide)
    (he : starEach (e :: es) X.env = (false, eval e X.env) :: starEach es X.env := by rfl) (hpl : (backTo pos (starEach es X.env)).any (·.1) = false := by rfl) : PE X (.Call (.Name x p) (e :: es) [] pos) (tCall sp [] E0 t) := by
  obtain ⟨f, fd, F, hm, hk, hb⟩ := h.ex
  exact pe_call F hr hg hm hk hb .nil passL ha hdb he hpl
end
section
variable {K : PySem.W.Frag} {ρ : List Sl} {t ta tb tc te : TE} {a b c d : Dat} {W : WX} {P : Post} {C : Addr} {fs : List (Str × Dat)}
theorem s_callO {R : List Dat → Out → Prop} {E : L2.St → XK} {u : TA} {ds : List Dat} (h : SemA K u ρ ds) (hr : R ds (.val c)) : Sem K (tCallSD (spO K R) [] E u) ρ c := fun G0 B0 σ G H S Q q =>
  h _ _ _ _ _ S _ fun xs G1 H1 g1 rs => ⟨G1, ds, g1.s, by rw [List.append_nil]; exact rs, .inl ⟨c, hr, fun v G2 H2 g2 rv => q v G2 H2 (g1.trans g2) rv⟩⟩
theorem s_callO0 {R : List Dat → Out → Prop} {E : XK} {u : TA} {ds : List Dat} (h : SemA K u ρ ds) (hr : R ds (.val c)) : Sem K (tCall (spO K R) [] E u) ρ c := fun G0 B0 σ G H S Q q =>
  h _ _ _ _ _ S _ fun xs G1 H1 g1 rs => ⟨G1, ds, g1.s, by rw [List.append_nil]; exact rs, .inl ⟨c, hr, fun v G2 H2 g2 rv => q v G2 H2 (g1.trans g2) rv⟩⟩
/-- what is called tells a new thing -/
theorem sm_callO {R : List Dat → Out → Prop} {E : L2.St → XK} {u : TA} {ds : List Dat} {o : OD} (h : SemA K u ρ ds) (hr : R ds (.mt o)) : SemM K (tCallSD (spO K R) [] E u) ρ o := fun G0 B0 σ G H S Q q =>
  h _ _ _ _ _ S _ fun xs G1 H1 g1 rs => ⟨G1, ds, g1.s, by rw [List.append_nil]; exact rs, .inr (.inr ⟨o, hr, fun v T G2 H2 g2 rv hT => q v T G2 H2 (g1.trans g2) rv fun a ha => ⟨fresh_back g1.h (hT a ha).1, (hT a ha).2⟩⟩)⟩
theorem sm_callO0 {R : List Dat → Out → Prop} {E : XK} {u : TA} {ds : List Dat} {o : OD} (h : SemA K u ρ ds) (hr : R ds (.mt o)) : SemM K (tCall (spO K R) [] E u) ρ o := fun G0 B0 σ G H S Q q =>
  h _ _ _ _ _ S _ fun xs G1 H1 g1 rs => ⟨G1, ds, g1.s, by rw [List.append_nil]; exact rs, .inr (.inr ⟨o, hr, fun v T G2 H2 g2 rv hT => q v T G2 H2 (g1.trans g2) rv fun a ha => ⟨fresh_back g1.h (hT a ha).1, (hT a ha).2⟩⟩)⟩
theorem sn_ofM {ds : List Dat} (h : SemM K te ρ (.pl ds)) : SemN K te ρ ds := fun G0 B0 σ G H S Q q =>
  h _ _ _ _ _ S _ fun v T G1 H1 g1 r hT => by
    cases r with
    | pl k1 k2 => exact q _ _ _ _ g1 (hT _ List.mem_cons_self).1 (hT _ List.mem_cons_self).2 k1 k2
theorem sn_callO {R : List Dat → Out → Prop} {E : L2.St → XK} {u : TA} {ds es : List Dat} (h : SemA K u ρ ds) (hr : R ds (.new es)) : SemN K (tCallSD (spO K R) [] E u) ρ es := sn_ofM (sm_callO h hr)
theorem sn_callO0 {R : List Dat → Out → Prop} {E : XK} {u : TA} {ds es : List Dat} (h : SemA K u ρ ds) (hr : R ds (.new es)) : SemN K (tCall (spO K R) [] E u) ρ es := sn_ofM (sm_callO0 h hr)
theorem sx_call {R : List Dat → Out → Prop} {u : TA} {ds : List Dat} (h : SemA K u ρ ds) (hr : R ds (.exc C fs)) : SemX K W (tCallSD (spO K R) [] (WE W) u) ρ C fs := fun G0 B0 σ G H S Q q =>
  h _ _ _ _ _ S _ fun xs G1 H1 g1 rs => ⟨G1, ds, g1.s, by rw [List.append_nil]; exact rs, .inr (.inl ⟨C, fs, hr, fun dd G2 H2 g2 rv => q dd G2 H2 (g1.trans g2) rv⟩)⟩
theorem sx_asg {g : TG} (h : SemX K W te ρ C fs) (p : P.ex C fs ρ) : SemS K W (tAsg te g) ρ P := fun G0 B0 σ G H D S n r b ct x => h _ _ _ _ _ S _ fun dd G1 H1 g1 hx => x _ _ _ _ _ _ _ p (S.grow g1) hx
theorem sx_drop (h : SemX K W te ρ C fs) (p : P.ex C fs ρ) : SemS K W (tDrop te) ρ P := fun G0 B0 σ G H D S n r b ct x => h _ _ _ _ _ S _ fun dd G1 H1 g1 hx => x _ _ _ _ _ _ _ p (S.grow g1) hx
theorem sx_ret (h : SemX K W te ρ C fs) (p : P.ex C fs ρ) : SemS K W (tRet te) ρ P := fun G0 B0 σ G H D S n r b ct x => h _ _ _ _ _ S _ fun dd G1 H1 g1 hx => x _ _ _ _ _ _ _ p (S.grow g1) hx
/-! raise -/
/-- raise X(..): t makes the exception -/
def tRaisE (t : L2.St → Hp → XK → Prop) (W : WX) : TS := fun _ σ H => t σ H fun cls d H' => W cls d σ H'
/-- X('..'), X without an __init__ of its own -/
def tMk0 (C : Addr) : L2.St → Hp → XK → Prop := fun _ H Q => Q (.ref C) none H
theorem sr_own (p : P.ex C [] ρ) : SemS K W (tRaisE (tMk0 C) W) ρ P := fun G0 B0 σ G H D S n r b ct x => x _ _ _ _ _ _ _ p S .no
/-- the promise of an exception's __init__: fl tells the fields of what is handed in -/
def spIni (K : PySem.W.Frag) (C : Addr) (ok : List V → Prop) (fl : List V → List (Str × V)) : Sp := fun vs H Q _ => ∃ a ws, vs = .ref a :: ws ∧ ok ws ∧ H a = some (exo a C none) ∧
  ∀ d, H d = none → d ≠ a → Q .non (upd (upd H d (exd d (fl ws))) a (exo a C (some d)))
/-- the fields by data: the names in order, the data -/
theorem sr_ini {ta : TA} {ok : List V → Prop} {fl : List V → List (Str × V)} {ds : List Dat} (h : SemA K ta ρ ds) (hl : ds.length ≤ 900) (hok : ∀ G vs, DRs K G vs ds → ok vs) (hfl : ∀ G vs, DRs K G vs ds → DRf K G (fl vs) fs) (p : P.ex C fs ρ) :
    SemS K W (tRaisE (tMkO C (spIni K C ok fl) [] ta) W) ρ P := fun G0 B0 σ G H D S n r b ct x =>
  h _ _ _ _ _ S _ fun vs G1 H1 g1 rs => by
    have S1 := S.grow g1
    refine ⟨by rw [rs.length]; omega, fun a0 ha0 => ?_⟩
    rw [List.append_nil]
    refine ⟨a0, vs, rfl, hok _ _ rs, upd_same, fun d hd hda => ?_⟩
    have hd1 : H1 d = none := by rw [upd_ne hda] at hd; exact hd
    refine ⟨rfl, d, fl vs, upd_same, ?_, hd1, ?_⟩
    · rw [upd_ne hda, upd_same]
    · have e : upd (del (upd (upd (upd H1 a0 (exo a0 C none)) d (exd d (fl vs))) a0 (exo a0 C (some d))) a0) d (.xd (fl vs)) = upd H1 d (.xd (fl vs)) := by
        funext z
        by_cases z1 : z = d
        · subst z1; rw [upd_same, upd_same]
        · rw [upd_ne z1, upd_ne z1]
          by_cases z2 : z = a0
          · subst z2; rw [del_same]; exact ha0.symm
          · rw [del_ne z2, upd_ne z2, upd_ne z1, upd_ne z2]
      rw [e]
      have gn : Grow G1 H1 (upd G1 d (.xd (fl vs))) (upd H1 d (.xd (fl vs))) := Grow.new g1.s hd1
      exact x _ _ _ _ _ _ _ p (S1.grow gn) (.fs upd_same (hfl _ _ (rs.mono gn.g)))
/-! try -/
theorem ss_try {cv : Value} {i : Nat} {tb : WX → TS} {ts : TS} (hb : ∀ W', SemS K W' (tb W') ρ { P with ex := fun C fs ρ' =>
      (PySem.W.exmOne K (.ref C) cv = some true ∧ SemS K (fun _ _ _ _ => False) ts (ρ'.set i (.dat (.exc C fs))) { nx := fun ρ2 => P.nx (ρ2.set i .no), rt := P.rt, rn := P.rn, rm := P.rm, bk := fun ρ2 => P.bk (ρ2.set i .no), ct := fun ρ2 => P.ct (ρ2.set i .no) }) ∨
      (PySem.W.exmOne K (.ref C) cv = some false ∧ P.ex C fs ρ') }) : SemS K W (tTry K cv i tb ts W) ρ P := fun G0 B0 σ G H D S n r b ct x => by
  refine hb _ G0 B0 σ G H D S n r b ct fun C fs dd ρ' σ' G' H' hp S' hx => ?_
  rcases hp with ⟨he, hs⟩ | ⟨he, hp⟩
  · refine ⟨true, he, fun _ a0 ha0 => ?_, fun z => by cases z⟩
    have gn : Grow G' H' (upd G' a0 (exv a0 (.ref C) dd)) (upd H' a0 (exv a0 (.ref C) dd)) := Grow.new S'.gr.s ha0
    have rd : DR K (upd G' a0 (exv a0 (.ref C) dd)) (.ref a0) (.exc C fs) := by
      cases hx with
      | no => exact .exc0 upd_same
      | fs h1 h2 => exact .exc1 upd_same (gn.g _ _ h1) (h2.mono gn.g)
    exact hs G0 B0 _ _ _ _ ((S'.grow gn).set rd) (fun ρ2 σ2 G2 H2 p S2 => n _ _ _ _ p S2.forget) r (fun ρ2 σ2 G2 H2 p S2 => b _ _ _ _ p S2.forget) (fun ρ2 σ2 G2 H2 p S2 => ct _ _ _ _ p S2.forget) (fun _ _ _ _ _ _ _ h _ _ => h.elim)
  · exact ⟨false, he, (fun z => by cases z), fun _ => x _ _ _ _ _ _ _ hp S' hx⟩
/-! fields, isinstance by data -/
theorem s_fldE {n : Str} (h : Sem K te ρ (.exc C fs)) (T : XfC K C) (hno : PySem.W.findIn K (.ref C) n = some none) (hl : fs.lookup n = some d) : Sem K (tAt K n te) ρ d := fun G0 B0 σ G H S Q q =>
  h _ _ _ _ _ S _ fun x G1 H1 g1 rx => by
    cases rx with
    | exc0 h0 => cases hl
    | exc1 h1 h2 r =>
      obtain ⟨v, l, rv⟩ := r.lookup hl
      exact .inr ⟨_, _, _, _, v, rfl, g1.s _ _ h1, T, hno, g1.s _ _ h2, l, q _ _ _ g1 rv⟩
theorem s_fldI {n : Str} {gs : List (Str × Dat)} (h : Sem K te ρ (.ins C gs)) (c : Cls K C) (hn : NoAttr K C n) (hl : gs.lookup n = some d) : Sem K (tAt K n te) ρ d := fun G0 B0 σ G H S Q q =>
  h _ _ _ _ _ S _ fun x G1 H1 g1 rx => by
    cases rx with
    | ins h1 r =>
      obtain ⟨v, l, rv⟩ := r.lookup hl
      exact .inl ⟨_, _, _, _, v, rfl, g1.s _ _ h1, c, hn, l, q _ _ _ g1 rv⟩
theorem cs_isiU {n t : String} {k : Bool} (h : tyD d = some t) (hk : kitB t n = some k) : CallS K (uIsi K) [d, .ty n] (.bl k) := fun xs G H e r Q q => .inl (cs_isi h hk xs G H e r Q q)
/-- what isinstance(x, C) must know of the class of x -/
structure InsC (K : PySem.W.Frag) (C : Addr) : Prop where
  cl : Cls K C
  ha : PySem.W.findIn K (.ref C) "__class__" = some (some (.builtin "object.__class__"))
  hn : PySem.W.specialIn K (.builtin "object.__class__") "__get__" = some (some (.builtin "getset_descriptor.__get__"))
  ht : PySem.W.takesIn K (.builtin "object.__class__") = some true
  hm : PySem.W.mroIn K C (.type "object") = some true
theorem cs_isiE {cc : Dat} {cv : V} {u : Value} {k : Bool} (hc : ∀ G x, DR K G x cc → x = cv) (hu : ClsV cv u) (T : ExcC K C) (hk : PySem.W.kitOne K (.ref C) u = some k) : CallS K (uIsi K) [.exc C fs, cc] (.bl k) := fun xs G H e r Q q => by
  cases r with
  | cons h1 r =>
    cases r with
    | cons h2 r =>
      cases r
      have ec := hc _ _ h2
      subst ec
      cases h1 with
      | exc0 h0 => exact .inr (.inl ⟨_, _, _, _, _, k, rfl, hu, e _ _ h0, (fun dd z => by cases z), T, hk, q _ _ _ (Grow.refl e) (.bl k)⟩)
      | exc1 ha hb r => exact .inr (.inl ⟨_, _, _, _, _, k, rfl, hu, e _ _ ha, (fun dd z => by cases z; exact ⟨_, e _ _ hb⟩), T, hk, q _ _ _ (Grow.refl e) (.bl k)⟩)
theorem cs_isiI {gs : List (Str × Dat)} {cc : Dat} {cv : V} {u : Value} {k : Bool} (hc : ∀ G x, DR K G x cc → x = cv) (hu : ClsV cv u) (T : InsC K C) (hk : PySem.W.kitOne K (.ref C) u = some k) : CallS K (uIsi K) [.ins C gs, cc] (.bl k) := fun xs G H e r Q q => by
  cases r with
  | cons h1 r =>
    cases r with
    | cons h2 r =>
      cases r
      have ec := hc _ _ h2
      subst ec
      cases h1 with
      | ins ha r => exact .inl ⟨_, _, _, _, k, rfl, hu, .base (.ins (e _ _ ha) T.cl T.ha T.hn T.ht T.hm), hk, q _ _ _ (Grow.refl e) (.bl k)⟩
/-- a thing of a built-in class, asked for an own one -/
theorem cs_isiB {t : String} {cc : Dat} {cv : V} {u : Value} {k : Bool} (h : tyD d = some t) (hc : ∀ G x, DR K G x cc → x = cv) (hu : ClsV cv u) (hk : PySem.W.kitOne K (.type t) u = some k) : CallS K (uIsi K) [d, cc] (.bl k) := fun xs G H e r Q q => by
  cases r with
  | cons h1 r =>
    cases r with
    | cons h2 r =>
      cases r
      have ec := hc _ _ h2
      subst ec
      exact .inl ⟨_, _, _, _, k, rfl, hu, (h1.mono e).ty' h, hk, q _ _ _ (Grow.refl e) (.bl k)⟩
end
/-! ### defs that may raise -/
def PO : Out → Post
  | .val d => { nx := fun _ => d = .non, rt := fun d' => d' = d }
  | .exc C fs => { nx := fun _ => False, ex := fun C' fs' _ => C' = C ∧ fs' = fs }
  | .mt o => { nx := fun _ => False, rn := fun o' => o' = o }
section
variable {P : Program} {w : World} {K : PySem.W.Frag} {mg : Str → Option Value} {base : Heap}
theorem fn_dx {x qual : Str} {st : Stmt} {f : Addr} {fd : FuncData} {N ps : List Str} {k : Nat} {R : List Dat → Out → Prop} {T : WX → TS} (F : Fun K x qual st f fd) (S : FnScope N ps (defScope st))
    (hlen : ∀ ds o, R ds o → ds.length = ps.length)
    (hp : ∀ (cdv : Value) (A : Around) (outer : List Env) (s : Shared) (H : Hp) (E : XK), Room k (A.deeper (envOfC qual (defScope st) s.heap.objs.size f cdv)) → PSs (cxOf (L2.CX P w) P w K mg base N qual (defScope st) f cdv A outer s H E) (defBody st) (T fun cls d _ H => E cls d H))
    (hs : ∀ W ds o, R ds o → SemS K W (T W) (slots N.length ds) (PO o)) : FnOk P w K mg base (L2.CX P w) (k + 1) f fd ps (spO K R) := by
  refine F.okX S (fun vs H Q E h => ?_) (fun cdv A outer s H vs Q E hr h => ?_)
  · obtain ⟨G, ds, e, r, ⟨d, hR, q⟩ | ⟨C, fs, hR, q⟩ | ⟨es, hR, q⟩⟩ := h
    · rw [r.length]; exact hlen ds _ hR
    · rw [r.length]; exact hlen ds _ hR
    · rw [r.length]; exact hlen ds _ hR
  · obtain ⟨G, ds, e, r, ⟨d, hR, q⟩ | ⟨C, fs, hR, q⟩ | ⟨es, hR, q⟩⟩ := h
    · refine ⟨_, hp cdv A outer s H E hr, hs _ ds _ hR G H _ G H _ (sat_start e r) (fun ρ' σ' G' H' h S' => ?_) ⟨fun d' v G' H' h g rv => ?_, fun _ _ _ _ _ h _ _ _ => h.elim, fun _ _ _ _ _ _ h _ _ => h.elim⟩ (fun _ _ _ _ h _ => h.elim) (fun _ _ _ _ h _ => h.elim) (fun _ _ _ _ _ _ _ h _ _ => h.elim)⟩
      · cases h
        exact q _ _ _ S'.gr .non
      · cases h
        exact q _ _ _ g rv
    · refine ⟨_, hp cdv A outer s H E hr, hs _ ds _ hR G H _ G H _ (sat_start e r) (fun ρ' σ' G' H' h S' => h.elim) ⟨fun d' v G' H' h g rv => h.elim, fun _ _ _ _ _ h _ _ _ => h.elim, fun _ _ _ _ _ _ h _ _ => h.elim⟩ (fun _ _ _ _ h _ => h.elim) (fun _ _ _ _ h _ => h.elim) (fun C' fs' dd ρ' σ' G' H' h S' hx => ?_)⟩
      obtain ⟨rfl, rfl⟩ := h
      exact q _ _ _ S'.gr hx
    · refine ⟨_, hp cdv A outer s H E hr, hs _ ds _ hR G H _ G H _ (sat_start e r) (fun ρ' σ' G' H' h S' => h.elim) ⟨fun d' v G' H' h g rv => h.elim, fun o' v T G' H' h g k1 k2 => ?_, fun _ _ _ _ _ _ h _ _ => h.elim⟩ (fun _ _ _ _ h _ => h.elim) (fun _ _ _ _ h _ => h.elim) (fun _ _ _ _ _ _ _ h _ _ => h.elim)⟩
      cases h
      exact q _ _ _ _ g k1 k2
theorem gx_of {x qual : Str} {st : Stmt} {f : Addr} {fd : FuncData} {N ps : List Str} {k : Nat} {R : List Dat → Out → Prop} {T : WX → TS} (F : Fun K x qual st f fd) (hm : mg x = some (.ref f)) (hb : Binds K fd ps []) (S : FnScope N ps (defScope st))
    (hlen : ∀ ds o, R ds o → ds.length = ps.length)
    (hp : ∀ (cdv : Value) (A : Around) (outer : List Env) (s : Shared) (H : Hp) (E : XK), Room k (A.deeper (envOfC qual (defScope st) s.heap.objs.size f cdv)) → PSs (cxOf (L2.CX P w) P w K mg base N qual (defScope st) f cdv A outer s H E) (defBody st) (T fun cls d _ H => E cls d H))
    (hs : ∀ W ds o, R ds o → SemS K W (T W) (slots N.length ds) (PO o)) : GX P w K mg base (k + 1) x ps (spO K R) :=
  ⟨f, fd, fn_dx F S hlen hp hs, hm, F.kp, hb⟩
end
end DL
namespace DL
open PySem PySem.Spec PyProof.Rows L2
open Evl (Ex ex_l ex_t fresh_back)
/-! ### an exception class with an __init__ of its own, as the defs want it -/
structure XI (P : Program) (w : World) (K : PySem.W.Frag) (mg : Str → Option Value) (base : Heap) (k : Nat) (x : Str) (C : Addr) (sp : Sp) : Prop where
  T : OexC K C
  m : mg x = some (.ref C)
  ex : ∃ fI fd ps, PySem.W.findIn K (.ref C) "__init__" = some (some (.ref fI)) ∧ PySem.W.typeIn K (.ref fI) = some (.type "function") ∧ FnOk P w K mg base CX0 k fI fd ps sp ∧ Binds K fd ps []
theorem pmk_xi {X : Cx} {x : Str} {C : Addr} {k : Nat} {sp : Sp} {e : Expr} {es : List Expr} {ta : TA} {p pos : Pos} (h : XI X.prog X.w X.K X.mg X.base k x C sp) (hr : Room (k + 1) X.A) (hg : Gl X x) (ha : PA X (e :: es) ta)
    (hdb : (x == ("__debug__" : Str)) = false := by decide) (he : starEach (e :: es) X.env = (false, eval e X.env) :: starEach es X.env := by rfl) (hpl : (backTo pos (starEach es X.env)).any (·.1) = false := by rfl) :
    PMk X (.Call (.Name x p) (e :: es) [] pos) (tMkO C sp [] ta) := by
  obtain ⟨fI, fd, ps, iC, tI, F1, hb⟩ := h.ex
  exact pmk_oex h.T iC tI F1 hr hb .nil pass0 hg h.m ha hdb he hpl
/-- GrammarError.__init__(self, msg); self.f = v -/
def tIni1 (K : PySem.W.Frag) (f : Str) (tm : TE) : TS := tSeq (tDrop (tVeI K (tCons (tVar 0) (tCons tm tNil)))) (tOst K f (tVar 0) (tVar 1))
theorem ini1 {K : PySem.W.Frag} {C : Addr} {f : Str} {tm : TE} {ok : List V → Prop} {N : List Str} (T : OexC K C) (hno : PySem.W.findIn K (.ref C) f = some none) (ho : ∀ ws, ok ws → ∃ v, ws = [v])
    (hm : ∀ (σ : L2.St) (H : Hp) (v : V) (Q : VK), ok [v] → σ[1]? = some (some v) → (∀ z, Q z H) → tm σ H Q) (vs : List V) (H : Hp) (Q : VK) (E : XK) (h : spIni K C ok (fun ws => [(f, ws.headD .non)]) vs H Q E) :
    tIni1 K f tm { nx := fun _ H' => Q .non H', rt := Q } (L2.start N vs) H := by
  obtain ⟨a, ws, rfl, hw, ha, q⟩ := h
  obtain ⟨v, rfl⟩ := ho ws hw
  refine ⟨.ref a, rfl, hm _ _ v _ hw rfl fun z => ⟨a, C, [z], rfl, (by show 1 ≤ 1000; decide), T, ha, ?_⟩⟩
  exact ⟨v, rfl, .ref a, rfl, a, C, rfl, T, hno, .inl ⟨ha, fun dx hd hda => q dx hd hda⟩⟩
/-! ### str(..), strip(..), methods with more arguments -/
def uStr : List V → Hp → VK → Prop := fun xs H Q => (∃ i : Int, xs = [.int i] ∧ i.natAbs.log2 < 1920 ∧ Q (.str (toString i)) H) ∨ (∃ a, xs = [.str a] ∧ Q (.str a) H) ∨ (xs = [.non] ∧ Q (.str "None") H)
theorem cu_str {X : Cx} : CallR X (.type "str") uStr := by
  intro pins s σ H xs us Q I r h
  rcases h with h | ⟨a, rfl, q⟩ | ⟨rfl, q⟩
  · exact call_str_int pins s σ H xs us Q I r h
  · obtain ⟨u, rfl, t, rfl⟩ := vals1 r
    exact PySem.P.str_of_str ⟨.str a, H, I, ⟨_, rfl⟩, q⟩
  · obtain ⟨u, rfl, r1⟩ := vals1 r
    cases (show u = Value.none from r1)
    exact PySem.P.str_of_none ⟨.str "None", H, I.tok _, ⟨_, rfl⟩, q⟩
def numT (i : Int) : List Nat := (Str.ofString (toString i)).cps.toList
theorem numT_len {i : Int} (h : i.natAbs.log2 < 1920) : (numT i).length ≤ 1921 := by
  have := int_text_len_1921 h
  simpa [numT, Str.length] using this
def uStripC : V → List V → Hp → VK → Prop := fun x xs H Q => ∃ a b, x = .str a ∧ xs = [.str b] ∧ a.length ≤ sizeLine ∧ Q (.str (Txt.stripChars a b)) H
section
variable {X : Cx} {K : PySem.W.Frag} {o e e1 e2 : Expr} {es : List Expr} {to te : TE} {ta : TA} {apos pos : Pos}
theorem pe_ustrip (ho : PE X o to) (he : PE X e te) (hs : starEach [e] X.env = [(false, eval e X.env)] := by rfl) (hbase : attributeBase o "strip" X.env (eval o X.env) = eval o X.env := by rfl) (hline : (apos.endLine == pos.line) = true := by rfl) :
    PE X (.Call (.Attribute o "strip" apos) [e] [] pos) (tM1 uStripC to te) := pe_m1 F.slot_str_strip F.type_str_strip mt_stripChars ho he hs hbase hline
end
section
variable {K : PySem.W.Frag} {ρ : List Sl} {te : TE} {c : Dat}
theorem cs_strI {i : Int} (h : i.natAbs.log2 < 1920) : CallS K uStr [.int i] (.txt (numT i)) := fun xs G H e r Q q => by
  cases r with
  | cons h1 r =>
    cases r; cases h1
    exact .inl ⟨i, rfl, h, q _ _ _ (Grow.refl e) (.ofStr _)⟩
theorem cs_strT {t : List Nat} : CallS K uStr [.txt t] (.txt t) := fun xs G H e r Q q => by
  cases r with
  | cons h1 r =>
    cases r; cases h1
    exact .inr (.inl ⟨_, rfl, q _ _ _ (Grow.refl e) (.txt _)⟩)
theorem cs_strN : CallS K uStr [.non] (.txt (Str.ofString "None").cps.toList) := fun xs G H e r Q q => by
  cases r with
  | cons h1 r =>
    cases r; cases h1
    exact .inr (.inr ⟨rfl, q _ _ _ (Grow.refl e) (.ofStr _)⟩)
theorem s_bmT {r : V → List V → Hp → VK → Prop} {cs : List Nat} {u : TA} {ds : List Dat} (h : Sem K te ρ (.txt cs)) (h1 : SemA K u ρ ds) (hr : MtS K r (.txt cs) ds c) : Sem K (tBM K "str" r te u) ρ c := fun G0 B0 σ G H S Q q =>
  h _ _ _ _ _ S _ fun x G1 H1 g1 rx => ⟨by cases rx; rfl, h1 _ _ _ _ _ (S.grow g1) _ fun ys G2 H2 g2 ry =>
    hr x ys G2 H2 g2.s (rx.mono g2.g) ry Q fun v G3 H3 g3 rv => q v G3 H3 ((g1.trans g2).trans g3) rv⟩
theorem s_cls {C : Addr} : Sem K (tC (.ref C)) ρ (.cls C) := s_c fun _ => .cls C
theorem ms_strip {a b : List Nat} (h : a.length ≤ sizeLine) : MtS K uStripC (.txt a) [.txt b] (.txt (Txt.stripChars (strL a) (strL b)).cps.toList) := fun x xs G H e rx rs Q q => by
  cases rx
  cases rs with
  | cons h1 r =>
    cases r; cases h1
    exact ⟨_, _, rfl, rfl, by rw [← strL, strL_len]; exact h, q _ _ _ (Grow.refl e) (.ofStr _)⟩
theorem ms_starts3 {a b : List Nat} {i : Int} : MtS K uStarts3 (.txt a) [.txt b, .int i] (.bl (Txt.startswith3 (strL a) (strL b) i)) := fun x xs G H e rx rs Q q => by
  cases rx
  cases rs with
  | cons h1 r =>
    cases r with
    | cons h2 r =>
      cases r; cases h1; cases h2
      exact ⟨_, _, _, rfl, rfl, q _ _ _ (Grow.refl e) (.bl _)⟩
theorem ms_find3 {a b : List Nat} {i : Int} : MtS K uFind3 (.txt a) [.txt b, .int i] (.int (Txt.find3 (strL a) (strL b) i)) := fun x xs G H e rx rs Q q => by
  cases rx
  cases rs with
  | cons h1 r =>
    cases r with
    | cons h2 r =>
      cases r; cases h1; cases h2
      exact ⟨_, _, _, rfl, rfl, q _ _ _ (Grow.refl e) (.int _)⟩
end
end DL
namespace DL
open PySem PySem.Spec PyProof.Rows L2
/-- a try around which nothing is wished -/
theorem ss_tryF {K : PySem.W.Frag} {ρ : List Sl} {W : WX} {P : Post} {cv : Value} {i : Nat} {tb : WX → TS} {ts : TS} (hb : ∀ W', SemS K W' (tb W') ρ { P with ex := fun C fs ρ' =>
      (PySem.W.exmOne K (.ref C) cv = some true ∧ SemS K (fun _ _ _ _ => False) ts (ρ'.set i (.dat (.exc C fs))) { nx := fun ρ2 => P.nx (ρ2.set i .no), rt := P.rt, rn := P.rn, rm := P.rm, bk := fun ρ2 => P.bk (ρ2.set i .no), ct := fun ρ2 => P.ct (ρ2.set i .no) }) ∨ False }) :
    SemS K W (tTry K cv i tb ts (fun _ _ _ _ => False)) ρ P := fun G0 B0 σ G H D S n r b ct x => by
  have h := ss_try (K := K) (W := fun _ _ _ _ => False) (ρ := ρ) (P := { P with ex := fun _ _ _ => False }) (cv := cv) (i := i) (tb := tb) (ts := ts) fun W' => ss_mono (hb W') (fun _ z => z) (fun _ z => z) (fun _ z => z) (fun _ z => z) fun C fs ρ' z => by
    rcases z with z | z
    · exact .inl z
    · exact z.elim
  exact h G0 B0 σ G H D S n r b ct fun _ _ _ _ _ _ _ z _ _ => z.elim
end DL

set_option Elab.async false
set_option linter.all false
set_option maxRecDepth 100000
set_option maxHeartbeats 1000000
/-! DLg: one's own list looked at, zip, enumerate, list(..), tuple(..), max(..) of data -/
namespace DL
open PySem PySem.Spec PyProof.Rows L2
open Evl (Ex ex_l ex_t fresh_back)
open PySem.W (AlikeAll maxD dataLt max_list_data alike alikeAll)
/-! ### one's own list is looked at: what comes of it is no object -/
def scalD : Dat → Bool
  | .non | .bl _ | .int _ | .txt _ | .ty _ => true
  | _ => false
theorem DR.scal {K : PySem.W.Frag} {G G' : Hp} {v : V} {d : Dat} (h : scalD d = true) (r : DR K G v d) : DR K G' v d := by
  cases r with
  | non => exact .non
  | bl b => exact .bl b
  | int i => exact .int i
  | txt cs => exact .txt cs
  | ty n => exact .ty n
  | _ => cases h
section
variable {K : PySem.W.Frag} {ρ : List Sl} {t ta tb tc te : TE} {a b c d : Dat}
theorem s_peekA (hs : scalD d = true) (h : Sem K te (ρ.map frzSl) d) : Sem K te ρ d := fun G0 B0 σ G H S Q q => by
  obtain ⟨G1, S1, hb⟩ := S.peek
  refine h _ _ _ _ _ S1 _ fun v G2 H2 g2 rv => ?_
  obtain ⟨G3, g3, _⟩ := hb G2 H2 g2
  exact q v G3 H2 g3 (rv.scal hs)
theorem st_peekA {tt : TT} {k : Bool} (h : SemT K tt (ρ.map frzSl) k) : SemT K tt ρ k := fun G0 B0 σ G H S Q q => by
  obtain ⟨G1, S1, hb⟩ := S.peek
  refine h _ _ _ _ _ S1 _ fun G2 H2 g2 => ?_
  obtain ⟨G3, g3, _⟩ := hb G2 H2 g2
  exact q G3 H2 g3
/-- what comes of it is a new list of things that are no objects -/
theorem DRs.scal {K : PySem.W.Frag} {G G' : Hp} : ∀ {vs : List V} {ds : List Dat}, (∀ d ∈ ds, scalD d = true) → DRs K G vs ds → DRs K G' vs ds
  | _, _, _, .nil => .nil
  | _, _, h, .cons r rs => .cons (r.scal (h _ List.mem_cons_self)) (DRs.scal (fun d hd => h d (List.mem_cons_of_mem _ hd)) rs)
theorem sn_peekA {ds : List Dat} (hs : ∀ d ∈ ds, scalD d = true) (h : SemN K te (ρ.map frzSl) ds) : SemN K te ρ ds := fun G0 B0 σ G H S Q q => by
  obtain ⟨G1, S1, hb⟩ := S.peek
  refine h _ _ _ _ _ S1 _ fun p vs G2 H2 g2 hp hg h2 rs => ?_
  obtain ⟨G3, g3, h3⟩ := hb G2 H2 g2
  exact q p vs G3 H2 g3 hp (by rw [h3 p hp]; exact hg) h2 (rs.scal hs)
end
/-! ### zip, enumerate -/
theorem pi_zipU {X : Cx} {K : PySem.W.Frag} {e e2 : Expr} {ta : TA} {p pos tpos : Pos} {elts : List Expr} {kk : Nat} (hK : X.K = K) (hg : Gl X "zip") (hm : X.mg "zip" = none) (ha : PA X [e, e2] ta)
    (hs : starEach [e, e2] X.env = (false, eval e X.env) :: starEach [e2] X.env := by rfl) (hpl : (backTo pos (starEach [e2] X.env)).any (·.1) = false := by rfl) :
    PI X (.Tuple elts kk tpos) (.Call (.Name "zip" p) [e, e2] [] pos) (iZip K ta) := by
  subst hK
  exact pi_zip hg hm ha hs hpl
theorem pi_enumU {X : Cx} {K : PySem.W.Frag} {e : Expr} {ta : TA} {p pos tpos : Pos} {elts : List Expr} {kk : Nat} (hK : X.K = K) (hg : Gl X "enumerate") (hm : X.mg "enumerate" = none) (ha : PA X [e] ta) (hs : starEach [e] X.env = [(false, eval e X.env)] := by rfl) :
    PI X (.Tuple elts kk tpos) (.Call (.Name "enumerate" p) [e] [] pos) (iEnum K ta) := by
  subst hK
  exact pi_enum hg hm ha hs
section
variable {K : PySem.W.Frag} {ρ : List Sl} {t ta tb tc te : TE} {a b c d : Dat}
theorem walks_zip {G : Hp} {p q : Addr} {xs ys : List V} {ds es : List Dat} (h : G p = some (.lst xs)) (r : DRs K G xs ds) (h2 : G q = some (.lst ys)) (r2 : DRs K G ys es) : Walks K (Itz K p q) G ((ds.zip es).map fun z => .tup [z.1, z.2]) where
  go := fun i G' H e1 e2 hi => by
    rw [List.length_map, List.length_zip] at hi
    exact ⟨xs, ys, xs[i]'(by rw [r.length]; omega), ys[i]'(by rw [r2.length]; omega), .inl (.inl (e2 _ _ (e1 _ _ h))), .inl (.inl (e2 _ _ (e1 _ _ h2))), List.getElem?_eq_getElem _, List.getElem?_eq_getElem _⟩
  yld := fun i G' H x H' d e1 e2 hd y => by
    obtain ⟨T, u, v, rfl, hT, rfl, hu, hv⟩ := y
    rw [List.getElem?_map] at hd
    cases z : (ds.zip es)[i]? with
    | none => rw [z] at hd; cases hd
    | some w =>
      rw [z] at hd
      cases hd
      obtain ⟨z1, z2⟩ := List.getElem?_zip_eq_some.mp z
      obtain ⟨v1, k1, k2⟩ := r.at z1
      obtain ⟨v2, k3, k4⟩ := r2.at z2
      have a1 := hu xs (.inl (.inl (e2 _ _ (e1 _ _ h))))
      have a2 := hv ys (.inl (.inl (e2 _ _ (e1 _ _ h2))))
      rw [k1] at a1; rw [k3] at a2
      cases a1; cases a2
      have gn : Grow G' H (upd G' T (.tup [u, v])) (upd H T (.tup [u, v])) := Grow.new e2 hT
      exact ⟨_, gn, .tup (.inl (.inl upd_same)) (.cons ((k2.mono e1).mono gn.g) (.cons ((k4.mono e1).mono gn.g) .nil))⟩
  stop := fun i G' H e1 e2 hi => by
    rw [List.length_map, List.length_zip] at hi
    refine ⟨xs, ys, .inl (.inl (e2 _ _ (e1 _ _ h))), .inl (.inl (e2 _ _ (e1 _ _ h2))), ?_⟩
    rw [r.length, r2.length]
    omega
theorem si_zip {u : TA} {ds es : List Dat} (h : SemA K u ρ [.lst ds, .lst es]) : SemI K (iZip K u) ρ ((ds.zip es).map fun z => .tup [z.1, z.2]) := fun G0 B0 σ G H S R q =>
  h _ _ _ _ _ S _ fun xs G1 H1 g1 rs => by
    cases rs with
    | cons h1 rs =>
      cases rs with
      | cons h2 rs =>
        cases rs
        cases h1 with
        | lst a1 r1 =>
          cases h2 with
          | lst a2 r2 => exact ⟨_, _, _, _, rfl, .inl (.inl (g1.s _ _ a1)), .inl (.inl (g1.s _ _ a2)), q _ G1 H1 g1 (walks_zip a1 r1 a2 r2)⟩
theorem walks_enum {G : Hp} {p : Addr} {xs : List V} {ds : List Dat} (h : G p = some (.lst xs)) (r : DRs K G xs ds) : Walks K (Ite K p) G (ds.zipIdx.map fun z => .tup [.int ((z.2 : Nat) : Int), z.1]) where
  go := fun i G' H e1 e2 hi => by
    rw [List.length_map, List.length_zipIdx] at hi
    exact ⟨xs, xs[i]'(by rw [r.length]; omega), .inl (.inl (e2 _ _ (e1 _ _ h))), List.getElem?_eq_getElem _⟩
  yld := fun i G' H x H' d e1 e2 hd y => by
    obtain ⟨T, u, rfl, hT, rfl, hu⟩ := y
    rw [List.getElem?_map, List.getElem?_zipIdx] at hd
    cases z : ds[i]? with
    | none => rw [z] at hd; cases hd
    | some w =>
      rw [z] at hd
      cases hd
      obtain ⟨v1, k1, k2⟩ := r.at z
      have a1 := hu xs (.inl (.inl (e2 _ _ (e1 _ _ h))))
      rw [k1] at a1
      cases a1
      have gn : Grow G' H (upd G' T (.tup [.int (i : Nat), u])) (upd H T (.tup [.int (i : Nat), u])) := Grow.new e2 hT
      have e0 : ((0 + i : Nat) : Int) = ((i : Nat) : Int) := by rw [Nat.zero_add]
      refine ⟨_, gn, .tup (.inl (.inl upd_same)) (.cons ?_ (.cons ((k2.mono e1).mono gn.g) .nil))⟩
      show DR K _ (.int ((i : Nat) : Int)) (.int ((0 + i : Nat) : Int))
      rw [e0]
      exact .int _
  stop := fun i G' H e1 e2 hi => by
    rw [List.length_map, List.length_zipIdx] at hi
    exact ⟨xs, .inl (.inl (e2 _ _ (e1 _ _ h))), by rw [r.length]; exact hi⟩
theorem si_enum {u : TA} {ds : List Dat} (h : SemA K u ρ [.lst ds]) : SemI K (iEnum K u) ρ (ds.zipIdx.map fun z => .tup [.int ((z.2 : Nat) : Int), z.1]) := fun G0 B0 σ G H S R q =>
  h _ _ _ _ _ S _ fun xs G1 H1 g1 rs => by
    cases rs with
    | cons h1 rs =>
      cases rs
      cases h1 with
      | lst a1 r1 => exact ⟨_, _, rfl, .inl (.inl (g1.s _ _ a1)), q _ G1 H1 g1 (walks_enum a1 r1)⟩
end
/-! ### list(..), tuple(..) -/
def uList (K : PySem.W.Frag) : List V → Hp → VK → Prop := fun xs H Q => ∃ p ys, xs = [.ref p] ∧ (SqL K H p ys ∨ SqT K H p ys) ∧ ∀ l, H l = none → Q (.ref l) (upd H l (.lst ys))
def uTuple (K : PySem.W.Frag) : List V → Hp → VK → Prop := fun xs H Q => ∃ p ys, xs = [.ref p] ∧ ((SqL K H p ys ∧ ∀ l, H l = none → Q (.ref l) (upd H l (.tup ys))) ∨ (SqT K H p ys ∧ Q (.ref p) H))
theorem cu_list {X : Cx} {K : PySem.W.Frag} (hK : X.K = K) : CallR X (.type "list") (uList K) := by subst hK; exact call_list_of
theorem cu_tuple {X : Cx} {K : PySem.W.Frag} (hK : X.K = K) : CallR X (.type "tuple") (uTuple K) := by subst hK; exact call_tuple_of
def seqD : Dat → Option (List Dat)
  | .lst ds => some ds
  | .tup ds => some ds
  | .scr ns => some (ns.map .int)
  | _ => none
section
variable {K : PySem.W.Frag} {ρ : List Sl} {t ta tb tc te : TE} {a b c d : Dat}
theorem sn_list {u : TA} {ds : List Dat} (h : SemA K u ρ [d]) (hd : seqD d = some ds) : SemN K (tCB (uList K) u) ρ ds := fun G0 B0 σ G H S Q q =>
  h _ _ _ _ _ S _ fun xs G1 H1 g1 rs => by
    cases rs with
    | cons h1 rs =>
      cases rs
      have fin : ∀ {ys : List V}, DRs K G1 ys ds → ∀ l, H1 l = none → Q (.ref l) (upd H1 l (.lst ys)) := fun {ys} r l hl =>
        q l ys G1 _ (g1.trans (Grow.newM g1.s hl)) (fresh_back g1.h hl) (fresh_back g1.s hl) upd_same r
      cases h1 with
      | lst a1 r => cases hd; exact ⟨_, _, rfl, .inl (.inl (.inl (g1.s _ _ a1))), fin r⟩
      | tup a1 r => cases hd; exact ⟨_, _, rfl, .inr (ex_t g1.s a1), fin r⟩
      | scr a1 => cases hd; exact ⟨_, _, rfl, .inl (ex_l g1.s a1), fin (DRs.ofInts _)⟩
      | _ => cases hd
theorem cs_tuple {ds : List Dat} (hd : seqD d = some ds) : CallS K (uTuple K) [d] (.tup ds) := fun xs G H e r Q q => by
  cases r with
  | cons h1 r =>
    cases r
    have fin : ∀ {ys : List V}, DRs K G ys ds → ∀ l, H l = none → Q (.ref l) (upd H l (.tup ys)) := fun {ys} r l hl => by
      have gn : Grow G H (upd G l (.tup ys)) (upd H l (.tup ys)) := Grow.new e hl
      exact q _ _ _ gn (.tup (.inl (.inl upd_same)) (r.mono gn.g))
    cases h1 with
    | lst a1 r => cases hd; exact ⟨_, _, rfl, .inl ⟨.inl (.inl (e _ _ a1)), fin r⟩⟩
    | tup a1 r => cases hd; exact ⟨_, _, rfl, .inr ⟨ex_t e a1, q _ _ _ (Grow.refl e) (.tup a1 r)⟩⟩
    | scr a1 => cases hd; exact ⟨_, _, rfl, .inl ⟨ex_l e a1, fin (DRs.ofInts _)⟩⟩
    | _ => cases hd
end
/-! ### max(xs) of data -/
theorem DpAll.get {K : PySem.W.Frag} {H : Hp} : ∀ {vs : List V} {ds : List PyData} {i : Nat} {v : V}, DpAll K H vs ds → vs[i]? = some v → ∃ d, ds[i]? = some d ∧ Dp K H v d
  | _, _, _, _, .nil, e => by simp at e
  | _, _, 0, _, .cons h _, e => by simp at e; subst e; exact ⟨_, rfl, h⟩
  | _, _, i + 1, v, .cons _ r, e => by
    obtain ⟨d, h1, h2⟩ := DpAll.get (i := i) (v := v) r (by simpa using e)
    exact ⟨d, by simpa using h1, h2⟩
def uMaxU (K : PySem.W.Frag) : List V → Hp → VK → Prop := fun xs H Q => uMax xs H Q ∨
  ∃ a ys d ds, xs = [.ref a] ∧ SqL K H a ys ∧ DpAll K H ys (d :: ds) ∧ AlikeAll (d :: ds) ∧ PyData.depthAll (d :: ds) ≤ 60 ∧ ∀ (i : Nat) v, ys[i]? = some v → (d :: ds)[i]? = some (maxD d ds) → Q v H
theorem Vals.getU : ∀ {xs : List V} {us : List Value} {i : Nat} {u : Value}, Vals xs us → us[i]? = some u → ∃ x, xs[i]? = some x ∧ RelV x u
  | _, _, _, _, .nil, e => by simp at e
  | _, _, 0, _, .cons h _, e => by simp at e; subst e; exact ⟨_, rfl, h⟩
  | _, _, i + 1, v, .cons _ r, e => by
    obtain ⟨d, h1, h2⟩ := Vals.getU (i := i) (u := v) r (by simpa using e)
    exact ⟨d, by simpa using h1, h2⟩
theorem cu_maxU {X : Cx} {K : PySem.W.Frag} (hK : X.K = K) (hc : X.calm = true) (hu : X.A.units + 64 < cLine) : CallR X (.builtin "max") (uMaxU K) := by
  subst hK
  intro pins s σ H vs us Q I r h
  rcases h with h | ⟨a, ys, d, ds, rfl, hs, hd, ha, hn, q⟩
  · exact cu_max hc pins s σ H vs us Q I r h
  · obtain ⟨its, rv, hl, _⟩ := I.list hs
    rw [Vals.ref1 r]
    obtain ⟨as, rs⟩ := Dp.readsAll I (d :: ds) ys its hd rv
    refine max_list_data (I.ok.hd hc) hl.isList (by rw [List.toList_toArray]; exact rs) ha (by omega) fun i v h' tk bs hi rm hk => ?_
    have hi' : its[i]? = some v := by simpa using hi
    obtain ⟨x, hx, rx⟩ := Vals.getU rv hi'
    obtain ⟨dx, hdx, px⟩ := DpAll.get hd hx
    obtain ⟨cs, rd⟩ := Dp.reads I dx x v px rx
    have e1 := (reads_det (fun b o e _ => hk b o e) rd rm).1
    exact ⟨x, H, I.kept hk, rx, q i x hx (by rw [hdx, e1])⟩
section
variable {K : PySem.W.Frag} {ρ : List Sl} {t ta tb tc te : TE} {a b c d : Dat}
theorem toPys_map : ∀ ds : List Dat, toPys ds = ds.map toPy
  | [] => rfl
  | d :: r => by rw [toPys, toPys_map r]; rfl
theorem cs_max2 {i j : Int} : CallS K (uMaxU K) [.int i, .int j] (.int (max i j)) := fun xs G H e r Q q => .inl (cs_max xs G H e r Q q)
theorem cs_maxD {e : Dat} {es : List Dat} {m : Dat} (hp : plainDs (e :: es) = true) (ha : AlikeAll (toPys (e :: es))) (hd : PyData.depthAll (toPys (e :: es)) ≤ 60)
    (hm : ∀ (i : Nat) d, (e :: es)[i]? = some d → toPy d = maxD (toPy e) (toPys es) → d = m) : CallS K (uMaxU K) [.lst (e :: es)] m := fun xs G H x r Q q => by
  cases r with
  | cons h1 r =>
    cases r
    cases h1 with
    | lst a1 r1 =>
      refine .inr ⟨_, _, toPy e, toPys es, rfl, .inl (.inl (x _ _ a1)), (r1.mono x).dp hp, ha, hd, fun i v hv he => ?_⟩
      obtain ⟨d, k1, k2⟩ := r1.get hv
      have e2 : toPy d = maxD (toPy e) (toPys es) := by
        have z : (toPys (e :: es))[i]? = some (toPy d) := by rw [toPys_map, List.getElem?_map, k1]; rfl
        have z2 : (toPys (e :: es))[i]? = some (maxD (toPy e) (toPys es)) := he
        rw [z] at z2
        exact Option.some.inj z2
      have := hm i d k1 e2
      subst this
      exact q _ _ _ (Grow.refl x) k2
/-- the greatest, where it is told -/
theorem maxD_eq {m : PyData} : ∀ (xs : List PyData) (x : PyData), m ∈ x :: xs → (∀ y ∈ x :: xs, dataLt m y = false) → (∀ y ∈ x :: xs, y = m ∨ dataLt y m = true) → maxD x xs = m
  | [], x, hx, _, _ => by
    rcases List.mem_cons.mp hx with h | h
    · exact h.symm
    · cases h
  | y :: r, x, hx, h1, h2 => by
    show maxD (if dataLt x y = true then y else x) r = m
    have hr : ∀ z ∈ r, z ∈ x :: y :: r := fun z hz => List.mem_cons_of_mem _ (List.mem_cons_of_mem _ hz)
    have hacc : (if dataLt x y = true then y else x) = x ∨ (if dataLt x y = true then y else x) = y := by split <;> simp
    refine maxD_eq r _ ?_ (fun z hz => ?_) (fun z hz => ?_)
    · rcases List.mem_cons.mp hx with e | hx
      · subst e
        rw [if_neg (by rw [h1 y (by simp)]; simp)]
        exact List.mem_cons_self
      · rcases List.mem_cons.mp hx with e | hx
        · subst e
          rcases h2 x (by simp) with e | e
          · subst e
            split <;> exact List.mem_cons_self
          · rw [if_pos e]; exact List.mem_cons_self
        · exact List.mem_cons_of_mem _ hx
    · rcases List.mem_cons.mp hz with e | hz
      · subst e
        rcases hacc with e | e <;> rw [e] <;> exact h1 _ (by simp)
      · exact h1 z (hr z hz)
    · rcases List.mem_cons.mp hz with e | hz
      · subst e
        rcases hacc with e | e <;> rw [e] <;> exact h2 _ (by simp)
      · exact h2 z (hr z hz)
end
end DL

set_option Elab.async false
set_option linter.all false
set_option maxRecDepth 100000
set_option maxHeartbeats 1000000
/-! DLh: own classes: made, their methods, fields that are set; exceptions without an __init__ of their own -/
namespace DL
open PySem PySem.Spec PyProof.Rows L2
open Evl (Ex ex_l ex_t fresh_back)
/-! ### exceptions without an __init__ -/
structure X0 (K : PySem.W.Frag) (mg : Str → Option Value) (x : Str) (C : Addr) : Prop where
  q : PySem.W.excIn K C [.type "ValueError", .type "Exception", .type "BaseException", .type "object"] "ValueError.__new__" = true
  m : mg x = some (.ref C)
  k : PySem.W.keepIn K (.ref C) = true
  s : PySem.W.subIn K (.ref C) (.type "BaseException") = some true
  t : PySem.W.typeIn K (.ref C) = some (.type "type")
theorem pmk_x0 {X : Cx} {x m : Str} {C : Addr} {j : Nat} {p p2 pos : Pos} (h : X0 X.K X.mg x C) (hg : Gl X x) (hdb : (x == ("__debug__" : Str)) = false := by decide) : PMk X (.Call (.Name x p) [.Constant (.str m) j p2] [] pos) (tMk0 C) :=
  pmk_own PySem.F.excBase_ValueError h.q h.m h.k (raises_own h.s h.t) hg hdb
/-! ### methods -/
structure MD (P : Program) (w : World) (K : PySem.W.Frag) (mg : Str → Option Value) (base : Heap) (k : Nat) (m : Str) (C : Addr) (sp : Sp) : Prop where
  c : Cls K C
  ex : ∃ f fd ps, Meth K C m f ∧ FnOk P w K mg base (L2.CX P w) k f fd ps sp ∧ Binds K fd ps []
abbrev MDs (P : Program) (w : World) (K : PySem.W.Frag) (mg : Str → Option Value) (base : Heap) (k : Nat) (m : Str) (ms : List (Addr × Sp)) : Prop := ∀ e ∈ ms, MD P w K mg base k m e.1 e.2
theorem MD.mono {P : Program} {w : World} {K : PySem.W.Frag} {mg : Str → Option Value} {base : Heap} {j k : Nat} {m : Str} {C : Addr} {sp : Sp} (h : MD P w K mg base j m C sp) (hj : j ≤ k) : MD P w K mg base k m C sp := by
  obtain ⟨f, fd, ps, a, F, b⟩ := h.ex
  exact ⟨h.c, f, fd, ps, a, F.mono hj, b⟩
theorem mds_nil {P : Program} {w : World} {K : PySem.W.Frag} {mg : Str → Option Value} {base : Heap} {k : Nat} {m : Str} : MDs P w K mg base k m [] := fun e h => by cases h
theorem mds_cons {P : Program} {w : World} {K : PySem.W.Frag} {mg : Str → Option Value} {base : Heap} {k : Nat} {m : Str} {C : Addr} {sp : Sp} {ms : List (Addr × Sp)} (h : MD P w K mg base k m C sp) (r : MDs P w K mg base k m ms) : MDs P w K mg base k m ((C, sp) :: ms) := fun e he => by
  rcases List.mem_cons.mp he with z | z
  · subst z; exact h
  · exact r e z
/-- o.m(..), o an instance of one of the classes -/
def tMu (ms : List (Addr × Sp)) (m : Str) (E : L2.St → XK) (to : TE) (ta : TA) : TE := fun σ H Q => to σ H fun x H1 => ∃ a C dx fs sp, x = .ref a ∧ H1 a = some (.ins C dx fs) ∧ (C, sp) ∈ ms ∧ fs.lookup m = none ∧ ta σ H1 fun vs H2 => sp (x :: vs) H2 Q (E σ)
theorem passL0 {X : Cx} (σ : L2.St) : PassesAt (L2.CX X.prog X.w) X σ E0 := fun pins H s e s' I h => passL pins σ H s e s' I h
section
variable {X : Cx} {k : Nat} {x m : Str} {p pos apos : Pos} {e o : Expr} {es : List Expr} {to : TE} {t : TA} {ms : List (Addr × Sp)} {E : L2.St → XK}
theorem pe_mu {pl : PySem.Sem Bool} (h : MDs X.prog X.w X.K X.mg X.base k m ms) (hx : ∀ σ, PassesAt (L2.CX X.prog X.w) X σ (E σ)) (hr : Room k X.A) (he : PE X o to) (ha : PA X (e :: es) t)
    (hst : starEach (e :: es) X.env = (false, eval e X.env) :: starEach es X.env := by rfl) (hpl : (backTo pos (starEach es X.env)).any (·.1) = false := by rfl)
    (ht : eval (.Call (.Attribute o m apos) (e :: es) [] pos) X.env = (do
      let ov ← eval o X.env
      standAt apos.atName
      let (f, first) ← holding [ov] (getMethod ov m pl)
      callWith pos f first (backTo pos (starEach (e :: es) X.env)) (backToKw pos (keywordEach [] X.env))) := by rfl) :
    PE X (.Call (.Attribute o m apos) (e :: es) [] pos) (tMu ms m E to t) := by
  refine ⟨fun pins s σ H Q I hw => ?_⟩
  refine PySem.W.methodCall_KW (pl := pl) (thn (he.run pins s σ H _ I hw) fun u s1 ⟨x, H1, I1, rx, a, C, dx, fs, sp, ex, ea, hm, l, q⟩ => ?_) ht
  subst ex
  obtain rfl : u = Value.ref a := rx
  have D := h _ hm
  obtain ⟨f, fd, ps, M, F, hb⟩ := D.ex
  refine getmeth_ok I1 ea D.c M l ?_
  refine PySem.W.callWith_K (first := [.ref a]) (h₀ := X.base) I.ok.mod.kin M.kp (thn (ha.run pos pins s1 σ H1 _ I1 q) fun us s2 ⟨vs, H2, I2, r, q2⟩ => ⟨I2.kIn, ?_⟩) hst hpl
  exact run_fnS (us := .ref a :: us) (vs := .ref a :: vs) F hr hb (hx σ) I2 (.cons rfl r) q2
theorem pe_mu0 {pl : PySem.Sem Bool} (h : MDs X.prog X.w X.K X.mg X.base k m ms) (hx : ∀ σ, PassesAt (L2.CX X.prog X.w) X σ (E σ)) (hr : Room k X.A) (he : PE X o to)
    (ht : eval (.Call (.Attribute o m apos) [] [] pos) X.env = (do
      let ov ← eval o X.env
      standAt apos.atName
      let (f, first) ← holding [ov] (getMethod ov m pl)
      callWith pos f first (backTo pos (starEach [] X.env)) (backToKw pos (keywordEach [] X.env))) := by rfl) :
    PE X (.Call (.Attribute o m apos) [] [] pos) (tMu ms m E to tNil) := by
  refine ⟨fun pins s σ H Q I hw => ?_⟩
  refine PySem.W.methodCall_KW (pl := pl) (thn (he.run pins s σ H _ I hw) fun u s1 ⟨x, H1, I1, rx, a, C, dx, fs, sp, ex, ea, hm, l, q⟩ => ?_) ht
  subst ex
  obtain rfl : u = Value.ref a := rx
  have D := h _ hm
  obtain ⟨f, fd, ps, M, F, hb⟩ := D.ex
  refine getmeth_ok I1 ea D.c M l ?_
  exact PySem.W.callWith_K0 (first := [.ref a]) I1.kIn M.kp (run_fnS (us := [.ref a]) (vs := [.ref a]) F hr hb (hx σ) I1 (.cons rfl .nil) q)
end
/-! ### classes that are made -/
structure CD (P : Program) (w : World) (K : PySem.W.Frag) (mg : Str → Option Value) (base : Heap) (k : Nat) (x : Str) (C : Addr) (dvs : List V) (sp : Sp) : Prop where
  m : mg x = some (.ref C)
  ex : ∃ f fd ps ds, Mk K C f ∧ FnOk P w K mg base (L2.CX P w) k f fd ps sp ∧ Binds K fd ps ds ∧ Vals dvs ds
theorem CD.mono {P : Program} {w : World} {K : PySem.W.Frag} {mg : Str → Option Value} {base : Heap} {j k : Nat} {x : Str} {C : Addr} {dvs : List V} {sp : Sp} (h : CD P w K mg base j x C dvs sp) (hj : j ≤ k) : CD P w K mg base k x C dvs sp := by
  obtain ⟨f, fd, ps, ds, a, F, b⟩ := h.ex
  exact ⟨h.m, f, fd, ps, ds, a, F.mono hj, b⟩
def tMkU (C : Addr) (sp : Sp) (dvs : List V) (E : L2.St → XK) (t : TA) : TE := fun σ H Q => t σ H fun vs H1 => ∀ x dx, H1 x = none → H1 dx = none → dx ≠ x →
  sp (.ref x :: (vs ++ dvs)) (upd (upd H1 dx (.own x)) x (.ins C dx [])) (fun v H2 => v = .non ∧ Q (.ref x) H2) (E σ)
section
variable {X : Cx} {CX : CXT} {k : Nat} {f C : Addr} {fd : FuncData} {ps : List Str} {sp : Sp} {dvs : List V} {ds : List Value} {E : XK} {x m : Str} {p pos apos : Pos} {e o : Expr} {es : List Expr} {ta : TE} {t : TA}
theorem run_makeAt {pins : List (Addr × Obj)} {σ : L2.St} {H : Hp} {s : Shared} {Q : VK} {us : List Value} {vs : List V} (M : Mk X.K C f) (F : FnOk X.prog X.w X.K X.mg X.base CX k f fd ps sp) (hr : Room (k + 1) X.A) (hb : Binds X.K fd ps ds) (hd : Vals dvs ds)
    (hx : PassesAt CX X σ E) (I : Inv X pins σ H s) (r : Vals vs us)
    (h : ∀ x dx, H x = none → H dx = none → dx ≠ x → sp (.ref x :: (vs ++ dvs)) (upd (upd H dx (.own x)) x (.ins C dx [])) (fun v H2 => v = .non ∧ Q (.ref x) H2) E) :
    wpAny (model X.prog X.w) X.A (call (.ref C) us) (EP X pins σ Q) X.xe s := by
  have hq := h (s.heap.objs.size + 1) s.heap.objs.size (I.hok.fresh (Nat.le_succ _)) (I.hok.fresh (Nat.le_refl _)) (Nat.ne_of_lt (Nat.lt_succ_self _))
  have I2 := Inv.made (C := C) I
  have r2 : Vals (V.ref (s.heap.objs.size + 1) :: (vs ++ dvs)) (Value.ref (s.heap.objs.size + 1) :: (us ++ ds)) := .cons rfl (r.append hd)
  have hl : (Value.ref (s.heap.objs.size + 1) :: us ++ ds).length = ps.length := by
    have e := r2.length
    rw [F.len _ _ _ _ hq] at e
    exact e.symm
  refine wpAny_call (make_map (f := f) I.kIn M.makes M.init (beq_iff_eq.mp M.fn) (codeAny_mono (F.run _ X.stack _ _ ⟨Value.ref (s.heap.objs.size + 1) :: us, []⟩ (Value.ref (s.heap.objs.size + 1) :: (us ++ ds)) _ _ E (hr.make C us [])
    (I2.env0.make C us []) (hb _ (Value.ref (s.heap.objs.size + 1) :: us) I2.kIn hl) r2 hq) fun r s' hq' => ?_))
  cases r with
  | error e => exact hx pins _ _ e s' I2 hq'
  | ok fl =>
    cases fl with
    | ret u =>
      obtain ⟨v, H', I3, rv, ev, q3⟩ := I2.after hq'
      subst ev
      exact ⟨rv, ⟨V.ref (s.heap.objs.size + 1), H', I3, rfl, q3⟩⟩
    | next => exact False.elim hq'
    | brk => exact False.elim hq'
    | cont => exact False.elim hq'
theorem pe_mkU {E : L2.St → XK} (h : CD X.prog X.w X.K X.mg X.base k x C dvs sp) (hx : ∀ σ, PassesAt (L2.CX X.prog X.w) X σ (E σ)) (hr : Room (k + 1) X.A) (hg : Gl X x) (hkp : PySem.W.keepIn X.K (.ref C) = true)
    (ha : PA X (e :: es) t) (hdb : (x == ("__debug__" : Str)) = false := by decide) (he : starEach (e :: es) X.env = (false, eval e X.env) :: starEach es X.env := by rfl) (hpl : (backTo pos (starEach es X.env)).any (·.1) = false := by rfl) :
    PE X (.Call (.Name x p) (e :: es) [] pos) (tMkU C sp dvs E t) := by
  obtain ⟨f, fd, ps, ds, M, F, hb, hd⟩ := h.ex
  refine ⟨fun pins s σ H Q I hw => ?_⟩
  refine wpAny_Call_Name_kw (ld_glob I hg h.m ?_ hdb)
  refine PySem.W.callWith_K (h₀ := X.base) I.ok.mod.kin hkp (thn (ha.run pos pins s σ H _ I hw) fun us s1 ⟨vs, H1, I1, r, q⟩ => ⟨I1.kIn, ?_⟩) he hpl
  exact run_makeAt M F hr hb hd (hx σ) I1 r q
end
/-! ### by data -/
section
variable {K : PySem.W.Frag} {ρ : List Sl} {t ta tb tc te : TE} {a b c d : Dat} {W : WX} {P : Post} {C : Addr} {fs : List (Str × Dat)}
theorem s_mu {ms : List (Addr × Sp)} {m : Str} {E : L2.St → XK} {u : TA} {ds : List Dat} {R : List Dat → Out → Prop} (ho : Sem K te ρ (.ins C fs)) (ha : SemA K u ρ ds) (hm : (C, spO K R) ∈ ms) (hl : fs.lookup m = none) (hr : R (.ins C fs :: ds) (.val c)) : Sem K (tMu ms m E te u) ρ c := fun G0 B0 σ G H S Q q =>
  ho _ _ _ _ _ S _ fun x G1 H1 g1 rx => by
    cases rx with
    | ins h1 r => exact ⟨_, _, _, _, _, rfl, g1.s _ _ h1, hm, r.none hl, ha _ _ _ _ _ (S.grow g1) _ fun ys G2 H2 g2 ry =>
        ⟨G2, _, g2.s, .cons (.ins (g2.g _ _ h1) (r.mono g2.g)) ry, .inl ⟨c, hr, fun v G3 H3 g3 rv => q v G3 H3 ((g1.trans g2).trans g3) rv⟩⟩⟩
theorem sm_mu {ms : List (Addr × Sp)} {m : Str} {E : L2.St → XK} {u : TA} {ds : List Dat} {o : OD} {R : List Dat → Out → Prop} (ho : Sem K te ρ (.ins C fs)) (ha : SemA K u ρ ds) (hm : (C, spO K R) ∈ ms) (hl : fs.lookup m = none) (hr : R (.ins C fs :: ds) (.mt o)) : SemM K (tMu ms m E te u) ρ o := fun G0 B0 σ G H S Q q =>
  ho _ _ _ _ _ S _ fun x G1 H1 g1 rx => by
    cases rx with
    | ins h1 r => exact ⟨_, _, _, _, _, rfl, g1.s _ _ h1, hm, r.none hl, ha _ _ _ _ _ (S.grow g1) _ fun ys G2 H2 g2 ry =>
        ⟨G2, _, g2.s, .cons (.ins (g2.g _ _ h1) (r.mono g2.g)) ry, .inr (.inr ⟨o, hr, fun v T G3 H3 g3 rv hT => q v T G3 H3 ((g1.trans g2).trans g3) rv fun a ha => ⟨fresh_back (g1.trans g2).h (hT a ha).1, (hT a ha).2⟩⟩)⟩⟩
theorem sx_mu {ms : List (Addr × Sp)} {m : Str} {u : TA} {ds : List Dat} {D : Addr} {gs : List (Str × Dat)} {R : List Dat → Out → Prop} (ho : Sem K te ρ (.ins C fs)) (ha : SemA K u ρ ds) (hm : (C, spO K R) ∈ ms) (hl : fs.lookup m = none) (hr : R (.ins C fs :: ds) (.exc D gs)) : SemX K W (tMu ms m (WE W) te u) ρ D gs := fun G0 B0 σ G H S Q q =>
  ho _ _ _ _ _ S _ fun x G1 H1 g1 rx => by
    cases rx with
    | ins h1 r => exact ⟨_, _, _, _, _, rfl, g1.s _ _ h1, hm, r.none hl, ha _ _ _ _ _ (S.grow g1) _ fun ys G2 H2 g2 ry =>
        ⟨G2, _, g2.s, .cons (.ins (g2.g _ _ h1) (r.mono g2.g)) ry, .inr (.inl ⟨D, gs, hr, fun dd G3 H3 g3 rv => q dd G3 H3 ((g1.trans g2).trans g3) rv⟩)⟩⟩
/-- the promise of an __init__ -/
def spInit (K : PySem.W.Frag) (C : Addr) (R : List Dat → Out → Prop) : Sp := fun vs H Q E => ∃ G H1 a dx ws ds, vs = .ref a :: ws ∧ H = upd (upd H1 dx (.own a)) a (.ins C dx []) ∧ H1 a = none ∧ H1 dx = none ∧ dx ≠ a ∧ Ex G H1 ∧ DRs K G ws ds ∧
  ((∃ o, R ds (.mt o) ∧ ∀ T G' H', Grow G H1 G' H' → OR K G' H' (.ref a) o T → (∀ b ∈ T, H1 b = none ∧ G' b = none) → Q .non H') ∨ (∃ D fs, R ds (.exc D fs) ∧ ∀ dd G' H', Grow G H1 G' H' → DX K G' dd fs → E (.ref D) dd H'))
theorem sm_mk {u : TA} {ds es : List Dat} {dvs : List V} {E : L2.St → XK} {o : OD} {R : List Dat → Out → Prop} (h : SemA K u ρ ds) (hd : ∀ G, DRs K G dvs es) (hr : R (ds ++ es) (.mt o)) : SemM K (tMkU C (spInit K C R) dvs E u) ρ o := fun G0 B0 σ G H S Q q =>
  h _ _ _ _ _ S _ fun xs G1 H1 g1 rs x dx hx hdx hne => ⟨G1, H1, x, dx, _, _, rfl, rfl, hx, hdx, hne, g1.s, rs.append (hd G1), .inl ⟨o, hr, fun T G2 H2 g2 r hT => ⟨rfl, q _ T G2 H2 (g1.trans g2) r fun b hb => ⟨fresh_back g1.h (hT b hb).1, (hT b hb).2⟩⟩⟩⟩
theorem sx_mk {u : TA} {ds es : List Dat} {dvs : List V} {D : Addr} {gs : List (Str × Dat)} {R : List Dat → Out → Prop} (h : SemA K u ρ ds) (hd : ∀ G, DRs K G dvs es) (hr : R (ds ++ es) (.exc D gs)) : SemX K W (tMkU C (spInit K C R) dvs (WE W) u) ρ D gs := fun G0 B0 σ G H S Q q =>
  h _ _ _ _ _ S _ fun xs G1 H1 g1 rs x dx hx hdx hne => ⟨G1, H1, x, dx, _, _, rfl, rfl, hx, hdx, hne, g1.s, rs.append (hd G1), .inr ⟨D, gs, hr, fun dd G2 H2 g2 r => q dd G2 H2 (g1.trans g2) r⟩⟩
/-! fields that are set -/
def putO (f : Str) (o : OD) : List (Str × OD) → List (Str × OD)
  | [] => [(f, o)]
  | (g, x) :: r => if g = f then (g, o) :: r else (g, x) :: putO f o r
theorem ORf.put {G H : Hp} {f : Str} {v : V} {o : OD} {T : List Addr} (h : OR K G H v o T) : ∀ {vs : List (Str × V)} {os : List (Str × OD)} {S : List Addr}, ORf K G H vs os S → (∀ a ∈ S, a ∉ T) → ∃ S', ORf K G H (putF f v vs) (putO f o os) S' ∧ ∀ a ∈ S', a ∈ S ∨ a ∈ T
  | _, _, _, .nil, _ => ⟨T ++ [], .cons h .nil (fun a _ z => by cases z), fun a ha => by rw [List.append_nil] at ha; exact .inr ha⟩
  | _, _, _, @ORf.cons _ _ _ x v' vs o' os S1 S2 h1 r n, hd => by
    by_cases q : x = f
    · refine ⟨T ++ S2, ?_, fun a ha => ?_⟩
      · show ORf K G H (if x = f then (x, v) :: vs else (x, v') :: putF f v vs) (if x = f then (x, o) :: os else (x, o') :: putO f o os) (T ++ S2)
        rw [if_pos q, if_pos q]
        exact .cons h r fun a ha hb => hd a (List.mem_append_right _ hb) ha
      · rcases List.mem_append.mp ha with z | z
        · exact .inr z
        · exact .inl (List.mem_append_right _ z)
    · obtain ⟨S', k1, k2⟩ := ORf.put h r fun a ha => hd a (List.mem_append_right _ ha)
      refine ⟨S1 ++ S', ?_, fun a ha => ?_⟩
      · show ORf K G H (if x = f then (x, v) :: vs else (x, v') :: putF f v vs) (if x = f then (x, o) :: os else (x, o') :: putO f o os) (S1 ++ S')
        rw [if_neg q, if_neg q]
        refine .cons h1 k1 fun a ha hb => ?_
        rcases k2 a hb with z | z
        · exact n a ha z
        · exact hd a (List.mem_append_left _ ha) z
      · rcases List.mem_append.mp ha with z | z
        · exact .inl (List.mem_append_left _ z)
        · rcases k2 a z with z | z
          · exact .inl (List.mem_append_right _ z)
          · exact .inr z
theorem ORf.length : ∀ {G H : Hp} {vs : List (Str × V)} {os : List (Str × OD)} {S : List Addr}, ORf K G H vs os S → vs.length = os.length
  | _, _, _, _, _, .nil => rfl
  | _, _, _, _, _, .cons _ r _ => by rw [List.length_cons, List.length_cons, ORf.length r]
/-- self.f = a new thing, or a datum -/
theorem ss_fld {i : Nat} {a0 : Addr} {f : Str} {o : OD} {os : List (Str × OD)} (hi : ρ[i]? = some (.mt (.me a0 (.ins C os)))) (h : SemM K te ρ o) (cl : Cls K C) (hn : NoAttr K C f) (hl : os.length < 1000) (p : P.nx (ρ.set i (.mt (.me a0 (.ins C (putO f o os)))))) : SemS K W (sFld K (tVar i) te f) ρ P := fun G0 B0 σ G H D S n r b ct x =>
  h _ _ _ _ _ S _ fun v T G1 H1 g1 rv hT => by
    obtain ⟨w0, T0, k1, k2, k3, k4⟩ := S.at hi
    cases k2 with
    | me k2 =>
      cases k2 with
      | @ins _ _ dx vs _ S0 m1 m2 m3 =>
        have dj : ∀ a ∈ S0, a ∉ T := fun a ha hb => m2.there a ha (hT a hb).1
        have m2' : ORf K G1 H1 vs os S0 := m2.keep g1.g fun a _ u hu => g1.h a u hu
        obtain ⟨S', q1, q2⟩ := ORf.put (f := f) rv m2' dj
        have na : a0 ∉ S' := fun z => by
          rcases q2 a0 z with z | z
          · exact m3 z
          · rw [(hT a0 z).1] at m1; cases m1
        have g0 : G1 a0 = none := g1.m a0 (k3 a0 List.mem_cons_self).1 (by rw [m1]; simp)
        refine ⟨.ref a0, k1, a0, C, dx, vs, rfl, g1.h _ _ m1, cl, hn, by rw [m2.length]; exact hl, n _ _ _ _ p (k4 _ G1 _ (a0 :: S') ⟨g1.g, g1.s.mut g0, fun a u ha hu => ?_, fun a z1 z2 _ => g1.m a z1 z2, fun a ha => ?_⟩ (.me (.ins upd_same (q1.keep (Evl.Ex.refl _) fun a ha u hu => ?_) na)))⟩
        · rw [upd_ne (fun z => ha (by rw [z]; exact List.mem_cons_self))]
          exact g1.h a u hu
        · rcases List.mem_cons.mp ha with z | z
          · rw [z]; exact ⟨.inl List.mem_cons_self, g0⟩
          · rcases q2 a z with z | z
            · exact ⟨.inl (List.mem_cons_of_mem _ z), g1.m a (k3 a (List.mem_cons_of_mem _ z)).1 (m2.there a z)⟩
            · exact ⟨.inr (hT a z).1, (hT a z).2⟩
        · rw [upd_ne (fun z => na (by rw [← z]; exact ha))]
          exact hu
/-- self.f, a datum -/
theorem ORf.datAt {G H : Hp} {f : Str} : ∀ {vs : List (Str × V)} {os : List (Str × OD)} {S : List Addr}, ORf K G H vs os S → os.lookup f = some (.dat d) → ∃ v, vs.lookup f = some v ∧ DR K G v d
  | _, _, _, .nil, e => by simp at e
  | _, _, _, @ORf.cons _ _ _ x v' vs o' os S1 S2 h1 r n, e => by
    rw [List.lookup_cons] at e ⊢
    cases q : (f == x) with
    | true =>
      rw [q] at e
      cases e
      cases h1 with
      | dat h => exact ⟨v', rfl, h⟩
    | false => rw [q] at e; exact ORf.datAt r e
theorem s_fldM {i : Nat} {a0 : Addr} {f : Str} {os : List (Str × OD)} (hi : ρ[i]? = some (.mt (.me a0 (.ins C os)))) (cl : Cls K C) (hn : NoAttr K C f) (hl : os.lookup f = some (.dat d)) : Sem K (tAt K f (tVar i)) ρ d := fun G0 B0 σ G H S Q q => by
  obtain ⟨w0, T0, k1, k2, k3, k4⟩ := S.at hi
  cases k2 with
  | me k2 =>
    cases k2 with
    | ins m1 m2 m3 =>
      obtain ⟨v, z1, z2⟩ := m2.datAt hl
      exact ⟨_, k1, .inl ⟨_, _, _, _, v, rfl, m1, cl, hn, z1, q _ _ _ (Grow.refl S.gr.s) z2⟩⟩
end
/-! ### an __init__ -/
def PI (a : Addr) : Out → Post
  | .val _ => { nx := fun _ => False }
  | .exc C fs => { nx := fun _ => False, ex := fun C' fs' _ => C' = C ∧ fs' = fs }
  | .mt o => { nx := fun ρ => ρ[0]? = some (.mt (.me a o)) }
theorem sat_startI {K : PySem.W.Frag} {N : List Str} {vs : List V} {ds : List Dat} {G H1 : Hp} {a dx C : Addr} {x : Str} (e : Ex G H1) (ha : H1 a = none) (hdx : H1 dx = none) (hne : dx ≠ a) (r : DRs K G vs ds) :
    Sat K G H1 (.mt (.me a (.ins C [])) :: slots N.length ds) (L2.start (x :: N) (.ref a :: vs)) G (upd (upd H1 dx (.own a)) a (.ins C dx [])) := by
  have S0 := sat_start (N := N) e r
  have hst : L2.start (x :: N) (.ref a :: vs) = some (.ref a) :: L2.start N vs := by
    unfold L2.start
    rw [List.map_cons, List.cons_append, List.length_cons, List.length_cons, Nat.add_sub_add_right]
  have eh : Ex H1 (upd (upd H1 dx (.own a)) a (.ins C dx [])) := (Evl.Ex.new hdx).trans (Evl.Ex.new (by rw [upd_ne (fun z => hne z.symm)]; exact ha))
  have ns : ∀ (i : Nat) (o : OD), (slots N.length ds)[i]? ≠ some (.mt o) := fun i o h => by
    unfold slots at h
    by_cases hi : i < ds.length
    · rw [List.getElem?_append_left (by simpa using hi), List.getElem?_map] at h
      cases z : ds[i]? with
      | none => rw [z] at h; cases h
      | some d' => rw [z] at h; cases h
    · rw [List.getElem?_append_right (by simpa using hi)] at h
      rw [List.getElem?_replicate] at h
      split at h <;> cases h
  rw [hst]
  refine ⟨⟨Evl.Ex.refl _, e.trans eh, eh, fun _ h _ => h⟩, by rw [List.length_cons, List.length_cons, S0.len], fun i d h => ?_, fun _ => [a], fun i o h => ?_, fun i j o o' n h1 h2 => ?_⟩
  · cases i with
    | zero => cases h
    | succ i =>
      obtain ⟨v, h1, h2⟩ := S0.dat i d h
      exact ⟨v, h1, h2⟩
  · cases i with
    | zero =>
      cases h
      refine ⟨.ref a, rfl, .me (.ins upd_same .nil (by simp)), fun b hb => ?_⟩
      rcases List.mem_cons.mp hb with z | z
      · rw [z]; exact ⟨fresh_back e ha, ha⟩
      · cases z
    | succ i => exact absurd h (ns i o)
  · cases i with
    | zero =>
      cases j with
      | zero => exact absurd rfl n
      | succ j => exact absurd h2 (ns j o')
    | succ i => exact absurd h1 (ns i o)
section
variable {P : Program} {w : World} {K : PySem.W.Frag} {mg : Str → Option Value} {base : Heap}
theorem fn_init {x qual : Str} {st : Stmt} {f : Addr} {fd : FuncData} {x0 : Str} {N ps : List Str} {k : Nat} {C : Addr} {R : List Dat → Out → Prop} {T : WX → TS} (F : Fun K x qual st f fd) (S : FnScope (x0 :: N) (x0 :: ps) (defScope st))
    (hlen : ∀ ds o, R ds o → ds.length = ps.length)
    (hp : ∀ (cdv : Value) (A : Around) (outer : List Env) (s : Shared) (H : Hp) (E : XK), Room k (A.deeper (envOfC qual (defScope st) s.heap.objs.size f cdv)) → PSs (cxOf (L2.CX P w) P w K mg base (x0 :: N) qual (defScope st) f cdv A outer s H E) (defBody st) (T fun cls d _ H => E cls d H))
    (hs : ∀ W a ds o, R ds o → SemS K W (T W) (.mt (.me a (.ins C [])) :: slots N.length ds) (PI a o)) : FnOk P w K mg base (L2.CX P w) (k + 1) f fd (x0 :: ps) (spInit K C R) := by
  refine F.okX S (fun vs H Q E h => ?_) (fun cdv A outer s H vs Q E hr h => ?_)
  · obtain ⟨G, H1, a, dx, ws, ds, rfl, _, _, _, _, _, r, h⟩ := h
    rw [List.length_cons, List.length_cons, r.length]
    rcases h with ⟨o, hR, _⟩ | ⟨D, fs, hR, _⟩
    · rw [hlen ds _ hR]
    · rw [hlen ds _ hR]
  · obtain ⟨G, H1, a, dx, ws, ds, rfl, rfl, ha, hdx, hne, e, r, h⟩ := h
    rcases h with ⟨o, hR, q⟩ | ⟨D, fs, hR, q⟩
    · refine ⟨_, hp cdv A outer s _ E hr, hs _ a ds _ hR G H1 _ G _ _ (sat_startI e ha hdx hne r) (fun ρ' σ' G' H' h S' => ?_) ⟨fun _ _ _ _ h _ _ => h.elim, fun _ _ _ _ _ h _ _ _ => h.elim, fun _ _ _ _ _ _ h _ _ => h.elim⟩ (fun _ _ _ _ h _ => h.elim) (fun _ _ _ _ h _ => h.elim) (fun _ _ _ _ _ _ _ h _ _ => h.elim)⟩
      obtain ⟨v, T', k1, k2, k3, _⟩ := S'.at h
      cases k2 with
      | me k2 => exact q _ _ _ S'.gr k2 fun b hb => ⟨(k3 b hb).2, (k3 b hb).1⟩
    · refine ⟨_, hp cdv A outer s _ E hr, hs _ a ds _ hR G H1 _ G _ _ (sat_startI e ha hdx hne r) (fun ρ' σ' G' H' h S' => h.elim) ⟨fun _ _ _ _ h _ _ => h.elim, fun _ _ _ _ _ h _ _ _ => h.elim, fun _ _ _ _ _ _ h _ _ => h.elim⟩ (fun _ _ _ _ h _ => h.elim) (fun _ _ _ _ h _ => h.elim) (fun C' fs' dd ρ' σ' G' H' h S' hx => ?_)⟩
      obtain ⟨rfl, rfl⟩ := h
      exact q _ _ _ S'.gr hx
end
end DL

set_option Elab.async false
set_option linter.all false
set_option maxRecDepth 100000
set_option maxHeartbeats 1000000
/-! DLi: isinstance of a tuple of classes, list.count, list.index, int(..), sum(..), what is looked at in lists -/
namespace DL
open PySem PySem.Spec PyProof.Rows L2
open Evl (Ex ex_l ex_t fresh_back)
/-! ### isinstance(x, (A, B)) -/
def clsV : Dat → Option Value
  | .cls C => some (.ref C)
  | .ty n => some (.type n)
  | _ => none
def clsVs : List Dat → Option (List Value)
  | [] => some []
  | d :: r => match clsV d, clsVs r with
    | some u, some us => some (u :: us)
    | _, _ => none
theorem DRs.cls {K : PySem.W.Frag} {G : Hp} : ∀ {vs : List V} {ds : List Dat} {us : List Value}, DRs K G vs ds → clsVs ds = some us → Paired ClsV vs us
  | _, _, us, .nil, h => by cases h; exact .nil
  | _, _, us, @DRs.cons _ _ v vs d ds h1 r, h => by
    unfold clsVs at h
    cases h2 : clsV d with
    | none => rw [h2] at h; cases h
    | some u =>
      cases h3 : clsVs ds with
      | none => rw [h2, h3] at h; cases h
      | some ws =>
        rw [h2, h3] at h
        cases h
        refine .cons ?_ (DRs.cls r h3)
        cases h1 with
        | cls C => cases h2; exact .own C
        | ty n => cases h2; exact .ty n
        | _ => cases h2
/-- the type of what a datum tells -/
def TyOf (K : PySem.W.Frag) (d : Dat) (t : Value) : Prop := ∀ G H v, Ex G H → DR K G v d → TyX K H v t
section
variable {K : PySem.W.Frag} {ρ : List Sl} {t ta tb tc te : TE} {a b c d : Dat}
theorem ty_ins {C : Addr} {gs : List (Str × Dat)} (T : InsC K C) : TyOf K (.ins C gs) (.ref C) := fun G H v e r => by
  cases r with
  | ins h _ => exact .base (.ins (e _ _ h) T.cl T.ha T.hn T.ht T.hm)
theorem ty_of {n : String} (h : tyD d = some n) : TyOf K d (.type n) := fun G H v e r => (r.mono e).ty' h
theorem cs_isiTT {ds : List Dat} {tv : Value} {us : List Value} {k : Bool} (ht : TyOf K d tv) (hc : clsVs ds = some us) (hk : PySem.W.kitAny K tv us = some k) : CallS K (uIsi K) [d, .tup ds] (.bl k) := fun xs G H e r Q q => by
  cases r with
  | cons h1 r =>
    cases r with
    | cons h2 r =>
      cases r
      cases h2 with
      | tup a1 r1 => exact .inr (.inr ⟨_, _, _, tv, us, k, rfl, ex_t e a1, r1.cls hc, ht _ _ _ e h1, hk, q _ _ _ (Grow.refl e) (.bl k)⟩)
theorem cs_isiO {cc : Dat} {tv u : Value} {k : Bool} (ht : TyOf K d tv) (hc : clsV cc = some u) (hk : PySem.W.kitOne K tv u = some k) : CallS K (uIsi K) [d, cc] (.bl k) := fun xs G H e r Q q => by
  cases r with
  | cons h1 r =>
    cases r with
    | cons h2 r =>
      cases r
      refine .inl ⟨_, _, tv, u, k, rfl, ?_, ht _ _ _ e h1, hk, q _ _ _ (Grow.refl e) (.bl k)⟩
      cases h2 with
      | cls C => cases hc; exact .own C
      | ty n => cases hc; exact .ty n
      | _ => cases hc
end
/-! ### list.count, list.index -/
def uCount (K : PySem.W.Frag) : V → List V → Hp → VK → Prop := fun x xs H Q => ∃ (p : Addr) (ys : List V) (y : V) (d : PyData) (ds : List PyData), x = .ref p ∧ xs = [y] ∧ SqL K H p ys ∧ DpAll K H ys ds ∧ Dp K H y d ∧ PyData.plainAll ds = true ∧ d.plain = true ∧
  PyData.depthAll ds ≤ 60 ∧ Q (.int ((ds.countP fun z => PyData.eqv z d : Nat) : Int)) H
theorem mt_count {X : Cx} {K : PySem.W.Frag} (hK : X.K = K) (hu : X.A.units + 64 < cLine) : MtR X "list.count" (uCount K) := by
  subst hK
  intro pins s σ H x xs v us Q I rx rxs h
  obtain ⟨p, ys, y, d, ds, rfl, rfl, hs, hds, hd, pds, pd, hn, q⟩ := h
  cases rx
  obtain ⟨u, rfl, ru⟩ := rxs.one
  obtain ⟨its, rv, hl, _⟩ := I.list hs
  obtain ⟨as, rs⟩ := Dp.readsAll I ds ys its hds rv
  obtain ⟨bs, rd⟩ := Dp.reads I d y u hd ru
  refine PySem.SeqAt.count_list_data hl.isList (by rw [List.toList_toArray]; exact rs) rd pds pd ?_ ⟨.int ((ds.countP fun z => PyData.eqv z d : Nat) : Int), H, I.tok _, ⟨_, rfl⟩, q⟩
  have := Nat.min_le_left (PyData.depthAll ds) d.depth
  omega
def uIndexD (K : PySem.W.Frag) : V → List V → Hp → VK → Prop := rIndexD K
theorem mt_indexU {X : Cx} {K : PySem.W.Frag} (hK : X.K = K) (hu : X.A.units + 65 < cLine) : MtR X "list.index" (uIndexD K) := by
  subst hK
  exact mt_indexD hu
section
variable {K : PySem.W.Frag} {ρ : List Sl} {t ta tb tc te : TE} {a b c d : Dat}
theorem s_bmL {r : V → List V → Hp → VK → Prop} {ls : List Dat} {u : TA} {ds : List Dat} (h : Sem K te ρ (.lst ls)) (h1 : SemA K u ρ ds) (hr : MtS K r (.lst ls) ds c) : Sem K (tBM K "list" r te u) ρ c := fun G0 B0 σ G H S Q q =>
  h _ _ _ _ _ S _ fun x G1 H1 g1 rx => ⟨by
    cases rx with
    | lst a1 r1 => exact .inl ⟨rfl, _, .inl (.inl (g1.s _ _ a1))⟩, h1 _ _ _ _ _ (S.grow g1) _ fun ys G2 H2 g2 ry =>
    hr x ys G2 H2 g2.s (rx.mono g2.g) ry Q fun v G3 H3 g3 rv => q v G3 H3 ((g1.trans g2).trans g3) rv⟩
theorem ms_count {ls : List Dat} (p1 : plainDs ls = true) (p2 : plainD d = true) (q1 : PyData.plainAll (toPys ls) = true) (q2 : (toPy d).plain = true) (hn : PyData.depthAll (toPys ls) ≤ 60) : MtS K (uCount K) (.lst ls) [d] (.int (((toPys ls).countP fun z => PyData.eqv z (toPy d) : Nat) : Int)) := fun x xs G H e rx rs Q q => by
  cases rs with
  | cons h r =>
    cases r
    cases rx with
    | lst a1 r1 => exact ⟨_, _, _, toPy d, toPys ls, rfl, rfl, .inl (.inl (e _ _ a1)), (r1.mono e).dp p1, (h.mono e).dp p2, q1, q2, hn, q _ _ _ (Grow.refl e) (.int _)⟩
theorem ms_index {ls : List Dat} {j : Nat} {z : PyData} (p1 : plainDs ls = true) (p2 : plainD d = true) (q1 : SeqAt.shaped (.list (toPys ls)) = true) (q2 : SeqAt.shaped (toPy d) = true) (hj : (toPys ls)[j]? = some z) (hz : PyData.eqv z (toPy d) = true)
    (hno : ∀ (m : Nat) (z' : PyData), m < j → (toPys ls)[m]? = some z' → PyData.eqv z' (toPy d) = false) : MtS K (uIndexD K) (.lst ls) [d] (.int (j : Int)) := fun x xs G H e rx rs Q q => by
  cases rs with
  | cons h r =>
    cases r
    have hp : plainD (.lst ls) = true := by unfold plainD; exact p1
    have hx := (rx.mono e).dp hp
    cases rx with
    | lst a1 r1 => exact ⟨_, _, toPy d, toPys ls, j, z, rfl, rfl, hx, (h.mono e).dp p2, q1, q2, hj, hz, hno, q _ _ _ (Grow.refl e) (.int _)⟩
end
/-! ### int(..) of a truth -/
def uInt : List V → Hp → VK → Prop := fun xs H Q => (∃ i, xs = [.int i] ∧ Q (.int i) H) ∨ ∃ k, xs = [.bl k] ∧ Q (.int (if k then 1 else 0)) H
theorem cu_int {X : Cx} : CallR X (.type "int") uInt := call_int1
theorem cs_intB {K : PySem.W.Frag} {k : Bool} : CallS K uInt [.bl k] (.int (if k then 1 else 0)) := fun xs G H e r Q q => by
  cases r with
  | cons h1 r =>
    cases r; cases h1
    exact .inr ⟨k, rfl, q _ _ _ (Grow.refl e) (.int _)⟩
/-! ### lists that one owns are looked at: what comes of it holds no list and no dict -/
mutual
def noLst : Dat → Bool
  | .lst _ => false
  | .dct _ => false
  | .scr _ => false
  | .tup xs => noLsts xs
  | .ins _ fs => noLstf fs
  | .exc _ _ => false
  | _ => true
def noLsts : List Dat → Bool
  | [] => true
  | x :: r => noLst x && noLsts r
def noLstf : List (Str × Dat) → Bool
  | [] => true
  | (_, x) :: r => noLst x && noLstf r
end
section
variable {K : PySem.W.Frag} {G G' : Hp}
mutual
theorem DR.noLst (h : ∀ a u, G a = some u → (∀ xs, u ≠ .lst xs) → (∀ xs, u ≠ .dK xs) → G' a = some u) : ∀ {v : V} {d : Dat}, DR K G v d → noLst d = true → DR K G' v d
  | _, _, .non, _ => .non
  | _, _, .ty n, _ => .ty n
  | _, _, .cls n, _ => .cls n
  | _, _, .bl b, _ => .bl b
  | _, _, .int i, _ => .int i
  | _, _, .txt cs, _ => .txt cs
  | _, _, .exc0 _, p => by simp [DL.noLst] at p
  | _, _, .exc1 _ _ _, p => by simp [DL.noLst] at p
  | _, _, .lst _ _, p => by simp [DL.noLst] at p
  | _, _, .scr _, p => by simp [DL.noLst] at p
  | _, _, .dct _ _, p => by simp [DL.noLst] at p
  | _, _, .tup a r, p => by
    refine .tup ?_ (DRs.noLst h r (by simpa [DL.noLst] using p))
    rcases a with (a | ⟨o, a⟩) | a
    · exact .inl (.inl (h _ _ a (fun xs z => by cases z) (fun xs z => by cases z)))
    · exact .inl (.inr ⟨o, h _ _ a (fun xs z => by cases z) (fun xs z => by cases z)⟩)
    · exact .inr a
  | _, _, .ins a r, p => .ins (h _ _ a (fun xs z => by cases z) (fun xs z => by cases z)) (DRf.noLst h r (by simpa [DL.noLst] using p))
theorem DRs.noLst (h : ∀ a u, G a = some u → (∀ xs, u ≠ .lst xs) → (∀ xs, u ≠ .dK xs) → G' a = some u) : ∀ {v : List V} {d : List Dat}, DRs K G v d → noLsts d = true → DRs K G' v d
  | _, _, .nil, _ => .nil
  | _, _, .cons a r, p => by
    rw [DL.noLsts, Bool.and_eq_true] at p
    exact .cons (DR.noLst h a p.1) (DRs.noLst h r p.2)
theorem DRf.noLst (h : ∀ a u, G a = some u → (∀ xs, u ≠ .lst xs) → (∀ xs, u ≠ .dK xs) → G' a = some u) : ∀ {v : List (Str × V)} {d : List (Str × Dat)}, DRf K G v d → noLstf d = true → DRf K G' v d
  | _, _, .nil, _ => .nil
  | _, _, .cons a r, p => by
    rw [DL.noLstf, Bool.and_eq_true] at p
    exact .cons (DR.noLst h a p.1) (DRf.noLst h r p.2)
end
end
def plSl : Sl → Bool
  | .mt (.pl _) => true
  | .mt (.pd _) => true
  | .mt _ => false
  | _ => true
theorem Sat.peekL {K : PySem.W.Frag} {ρ : List Sl} {G0 B0 G H : Hp} {σ : L2.St} (S : Sat K G0 B0 ρ σ G H) (hp : ρ.all plSl = true) : ∃ G1, Sat K G1 G1 (ρ.map frzSl) σ G1 H ∧ ∀ G2 H2, Grow G1 H G2 H2 → ∃ G3, Grow G H G3 H2 ∧ ∀ a u, G2 a = some u → (∀ xs, u ≠ .lst xs) → (∀ xs, u ≠ .dK xs) → G3 a = some u := by
  obtain ⟨F, f1, f2⟩ := S.fp
  classical
  let P : Addr → Prop := fun a => ∃ i o, ρ[i]? = some (Sl.mt o) ∧ a ∈ F i
  have hP : ∀ a, P a → G a = none ∧ H a ≠ none ∧ ∀ u, H a = some u → (∃ xs, u = .lst xs) ∨ ∃ xs, u = .dK xs := fun a ⟨i, o, h, ha⟩ => by
    obtain ⟨v, h1, h2, h3⟩ := f1 i o h
    refine ⟨(h3 a ha).1, h2.there a ha, fun u hu => ?_⟩
    have hpl := List.all_eq_true.mp hp _ (List.mem_of_getElem? h)
    generalize F i = T at ha h2
    cases h2 with
    | pl k1 k2 =>
      rcases List.mem_cons.mp ha with z | z
      · rw [z, k1] at hu; cases hu; exact .inl ⟨_, rfl⟩
      · cases z
    | pd k1 k2 =>
      rcases List.mem_cons.mp ha with z | z
      · rw [z, k1] at hu; cases hu; exact .inr ⟨_, rfl⟩
      · cases z
    | _ => cases hpl
  have eg : Ex G (fun a => if P a then H a else G a) := fun a u hu => by
    show (if P a then H a else G a) = some u
    rw [if_neg (fun q => by rw [(hP a q).1] at hu; cases hu)]; exact hu
  have es : Ex (fun a => if P a then H a else G a) H := fun a u hu => by
    have hu : (if P a then H a else G a) = some u := hu
    by_cases q : P a
    · rw [if_pos q] at hu; exact hu
    · rw [if_neg q] at hu; exact S.gr.s a u hu
  refine ⟨fun a => if P a then H a else G a, ⟨⟨Evl.Ex.refl _, es, es, fun a h _ => h⟩, by rw [List.length_map]; exact S.len, fun j e hj => ?_, fun _ => [], fun j o2 hj => ?_, fun j k o1 o2 n g1 g2 a ha => by cases ha⟩, fun G2 H2 g => ⟨fun a => if P a then none else G2 a, ⟨fun a u hu => ?_, fun a u hu => ?_, g.h, fun a k1 k2 => ?_⟩, fun a u hu n1 n2 => ?_⟩⟩
  · rw [List.getElem?_map] at hj
    cases z : ρ[j]? with
    | none => rw [z] at hj; cases hj
    | some s =>
      rw [z] at hj
      have hj : frzSl s = .dat e := Option.some.inj hj
      cases s with
      | no => cases hj
      | dat d =>
        cases hj
        obtain ⟨w, k1, k2⟩ := S.dat j e z
        exact ⟨w, k1, k2.mono eg⟩
      | mt o =>
        cases hj
        obtain ⟨w, k1, k2, k3⟩ := f1 j o z
        refine ⟨w, k1, k2.frz eg fun a ha u hu => ?_⟩
        show (if P a then H a else G a) = some u
        rw [if_pos ⟨j, o, z, ha⟩]; exact hu
  · rw [List.getElem?_map] at hj
    cases z : ρ[j]? with
    | none => rw [z] at hj; cases hj
    | some s =>
      rw [z] at hj
      have hj : frzSl s = .mt o2 := Option.some.inj hj
      cases s <;> cases hj
  · have q : ¬ P a := fun q => by rw [(hP a q).1] at hu; cases hu
    show (if P a then none else G2 a) = some u
    rw [if_neg q]
    refine g.g a u ?_
    show (if P a then H a else G a) = some u
    rw [if_neg q]; exact hu
  · have hu : (if P a then none else G2 a) = some u := hu
    by_cases q : P a
    · rw [if_pos q] at hu; cases hu
    · rw [if_neg q] at hu; exact g.s a u hu
  · show (if P a then none else G2 a) = none
    by_cases q : P a
    · rw [if_pos q]
    · rw [if_neg q]
      refine g.m a ?_ k2
      show (if P a then H a else G a) = none
      rw [if_neg q]; exact k1
  · show (if P a then none else G2 a) = some u
    rw [if_neg (fun q => ?_)]
    · exact hu
    · obtain ⟨_, h2, h3⟩ := hP a q
      cases w : H a with
      | none => exact h2 w
      | some u' =>
        have e1 : G2 a = some u' := g.g a u' (by show (if P a then H a else G a) = some u'; rw [if_pos q]; exact w)
        rw [hu] at e1
        cases e1
        rcases h3 u w with ⟨xs, z⟩ | ⟨xs, z⟩
        · exact n1 xs z
        · exact n2 xs z
theorem s_peekL {K : PySem.W.Frag} {ρ : List Sl} {te : TE} {d : Dat} (hp : ρ.all plSl = true) (hs : noLst d = true) (h : Sem K te (ρ.map frzSl) d) : Sem K te ρ d := fun G0 B0 σ G H S Q q => by
  obtain ⟨G1, S1, hb⟩ := S.peekL hp
  refine h _ _ _ _ _ S1 _ fun v G2 H2 g2 rv => ?_
  obtain ⟨G3, g3, h3⟩ := hb G2 H2 g2
  exact q v G3 H2 g3 (rv.noLst h3 hs)
end DL

set_option Elab.async false
set_option linter.all false
set_option maxRecDepth 100000
set_option maxHeartbeats 1000000
/-! DLj: bundles for the end: methods, classes that are made, defs that are not reached -/
namespace DL
open PySem PySem.Spec PyProof.Rows L2
open Evl (Ex ex_l ex_t fresh_back)
theorem ps_fldU {X : Cx} {K : PySem.W.Frag} {o value : Expr} {f : Str} {pos pos' : Pos} {ta tv : TE} (hK : X.K = K) (ha : PE X o ta) (hv : PE X value tv) (hs : swapsWith value (some (.Attribute o f pos')) pos.line X.env = pure false) : PS X (.Assign [.Attribute o f pos'] value pos) (sFld K ta tv f) := by
  subst hK
  exact ps_fld ha hv hs
section
variable {P : Program} {w : World} {K : PySem.W.Frag} {mg : Str → Option Value} {base : Heap}
/-- an __init__ with defaults -/
theorem fn_initD {x qual : Str} {st : Stmt} {f : Addr} {fd : FuncData} {x0 : Str} {N ps : List Str} {k : Nat} {C : Addr} {dvs : List V} {R : List Dat → Out → Prop} {T : WX → TS} (F : FunD K x qual (defArgs st) (defBody st) (defScope st) dvs [] f fd) (S : FnScope (x0 :: N) (x0 :: ps) (defScope st))
    (hlen : ∀ ds o, R ds o → ds.length = ps.length)
    (hp : ∀ (cdv : Value) (A : Around) (outer : List Env) (s : Shared) (H : Hp) (E : XK), Room k (A.deeper (envOfC qual (defScope st) s.heap.objs.size f cdv)) → PSs (cxOf (L2.CX P w) P w K mg base (x0 :: N) qual (defScope st) f cdv A outer s H E) (defBody st) (T fun cls d _ H => E cls d H))
    (hs : ∀ W a ds o, R ds o → SemS K W (T W) (.mt (.me a (.ins C [])) :: slots N.length ds) (PI a o)) : FnOk P w K mg base (L2.CX P w) (k + 1) f fd (x0 :: ps) (spInit K C R) := by
  refine F.ok S (fun vs H Q E h => ?_) (fun cdv A outer s H vs Q E hr h => ?_)
  · obtain ⟨G, H1, a, dx, ws, ds, rfl, _, _, _, _, _, r, h⟩ := h
    rw [List.length_cons, List.length_cons, r.length]
    rcases h with ⟨o, hR, _⟩ | ⟨D, fs, hR, _⟩
    · rw [hlen ds _ hR]
    · rw [hlen ds _ hR]
  · obtain ⟨G, H1, a, dx, ws, ds, rfl, rfl, ha, hdx, hne, e, r, h⟩ := h
    rcases h with ⟨o, hR, q⟩ | ⟨D, fs, hR, q⟩
    · refine ⟨_, hp cdv A outer s _ E hr, hs _ a ds _ hR G H1 _ G _ _ (sat_startI e ha hdx hne r) (fun ρ' σ' G' H' h S' => ?_) ⟨fun _ _ _ _ h _ _ => h.elim, fun _ _ _ _ _ h _ _ _ => h.elim, fun _ _ _ _ _ _ h _ _ => h.elim⟩ (fun _ _ _ _ h _ => h.elim) (fun _ _ _ _ h _ => h.elim) (fun _ _ _ _ _ _ _ h _ _ => h.elim)⟩
      obtain ⟨v, T', k1, k2, k3, _⟩ := S'.at h
      cases k2 with
      | me k2 => exact q _ _ _ S'.gr k2 fun b hb => ⟨(k3 b hb).2, (k3 b hb).1⟩
    · refine ⟨_, hp cdv A outer s _ E hr, hs _ a ds _ hR G H1 _ G _ _ (sat_startI e ha hdx hne r) (fun ρ' σ' G' H' h S' => h.elim) ⟨fun _ _ _ _ h _ _ => h.elim, fun _ _ _ _ _ h _ _ _ => h.elim, fun _ _ _ _ _ _ h _ _ => h.elim⟩ (fun _ _ _ _ h _ => h.elim) (fun _ _ _ _ h _ => h.elim) (fun C' fs' dd ρ' σ' G' H' h S' hx => ?_)⟩
      obtain ⟨rfl, rfl⟩ := h
      exact q _ _ _ S'.gr hx
/-- a def that is called nowhere -/
theorem fn_none {f : Addr} {fd : FuncData} {ps : List Str} {k : Nat} {CX : CXT} : FnOk P w K mg base CX k f fd ps (spO K fun _ _ => False) := by
  have no : ∀ vs H Q E, spO K (fun _ _ => False) vs H Q E → False := fun vs H Q E h => by
    obtain ⟨_, _, _, _, ⟨_, z, _⟩ | ⟨_, _, z, _⟩ | ⟨_, z, _⟩⟩ := h <;> exact z
  exact ⟨fun vs H Q E h => (no vs H Q E h).elim, fun A outer s H args us vs Q E _ _ _ _ h => (no vs H Q E h).elim⟩
theorem gx_none {x qual : Str} {st : Stmt} {f : Addr} {fd : FuncData} {ps : List Str} {k : Nat} (F : Fun K x qual st f fd) (hm : mg x = some (.ref f)) (hb : Binds K fd ps []) : GX P w K mg base k x ps (spO K fun _ _ => False) := ⟨f, fd, fn_none, hm, F.kp, hb⟩
theorem fn_noneD {f : Addr} {fd : FuncData} {ps : List Str} {k : Nat} {CX : CXT} : FnOk P w K mg base CX k f fd ps (spD K fun _ _ => False) := by
  have no : ∀ vs H Q E, spD K (fun _ _ => False) vs H Q E → False := fun vs H Q E h => by
    obtain ⟨_, _, _, _, _, z, _⟩ := h; exact z
  exact ⟨fun vs H Q E h => (no vs H Q E h).elim, fun A outer s H args us vs Q E _ _ _ _ h => (no vs H Q E h).elim⟩
theorem gd_none {x qual : Str} {st : Stmt} {f : Addr} {fd : FuncData} {ps : List Str} {k : Nat} (F : Fun K x qual st f fd) (hm : mg x = some (.ref f)) (hb : Binds K fd ps []) : GD P w K mg base k x ps (spD K fun _ _ => False) := ⟨f, fd, fn_noneD, hm, F.kp, hb⟩
end
end DL

set_option Elab.async false
set_option linter.all false
set_option maxRecDepth 100000
set_option maxHeartbeats 1000000
/-! DSa: sets made of lists, whose members are keys (texts, ints) or tuples of keys: how many there are, and sorted -/
namespace DL
open PySem PySem.Spec PyProof.Rows L2
/-- the object of a new set -/
abbrev setO (w : World) : Obj := { cls := .type "set", dict := none, data := .set #[] 0 (.fresh 0 0 (!w.params.followText "set-order")) }
/-- what is known of the table of a set that can be walked; vs are its members in the order of the table -/
structure Tb (w : World) (h : Heap) (a : Addr) (vs : List Value) : Prop where
  ex : ∃ es ep t, SetAt h a es ep t ∧ t.fits es.size = true ∧ es.size < scanBound ∧ Ris t.place.toList ∧ (w.params.followText "set-order" = true ∨ t.led = true) ∧ es.toList.map (·.2) = vs
/-- a kind of members: which value stands for which key; St: the set at a has these members -/
structure Knd (P : Program) (w : World) (E : Type) where
  is : Heap → E → Value → Prop
  St : Heap → Addr → List (Value × E) → Prop
  most : Nat
  small : most ≤ 4000
  isKeep : ∀ {h h' : Heap} {k : E} {v : Value}, is h k v → (∀ b o, h.get? b = some o → h'.get? b = some o) → is h' k v
  isSame : ∀ {h h' : Heap} {a : Addr} {L : List (Value × E)} {k : E} {v : Value}, is h k v → St h a L → Heap.SameBut a h h' → is h' k v
  tb : ∀ {h : Heap} {a : Addr} {L : List (Value × E)}, St h a L → Tb w h a (L.map (·.1))
  nd : ∀ {h : Heap} {a : Addr} {L : List (Value × E)}, St h a L → (L.map (·.2)).Nodup
  new : ∀ {h : Heap} {a : Addr}, h.get? a = some (setO w) → St h a []
  keep : ∀ {h h' : Heap} {a : Addr} {L : List (Value × E)}, St h a L → (∀ b o, h.get? b = some o → (b = a ∨ ∃ p ∈ L, p.1 = .ref b) → h'.get? b = some o) → St h' a L
  add : ∀ {A : Around} {X : Value → Shared → Prop} {s : Shared} {a : Addr} {L : List (Value × E)} {x : Value} {k : E} {Q : Bool → Shared → Prop}, A.units < cLine → St s.heap a L → is s.heap k x → L.length + 1 < most →
    (∀ b h' L' tk, s.toks ≤ tk → Heap.SameBut a s.heap h' → St h' a L' → (k ∈ L.map (·.2) → L' = L) → (k ∉ L.map (·.2) → L'.Perm ((x, k) :: L)) → Q b { s with heap := h', toks := tk }) →
    wpAny (model P w) A (setAdd a x) Q X s
/-- the set has got the first i items -/
structure Has {E : Type} (ks : List (Value × E)) (i : Nat) (L : List (Value × E)) : Prop where
  sub : ∀ p ∈ L, p ∈ ks.take i
  all : ∀ p ∈ ks.take i, p.2 ∈ L.map (·.2)
  len : L.length ≤ i
theorem Has.nil {E : Type} (ks : List (Value × E)) : Has ks 0 [] := ⟨fun _ h => (by cases h), fun p h => (by simp at h), Nat.le_refl _⟩
theorem takeS {α : Type} {l : List α} {i : Nat} {x : α} (h : l[i]? = some x) : l.take (i + 1) = l.take i ++ [x] := by rw [List.take_succ, h]; rfl
theorem Has.old {E : Type} {ks L : List (Value × E)} {i : Nat} {x : Value × E} (g : Has ks i L) (h : ks[i]? = some x) (hm : x.2 ∈ L.map (·.2)) : Has ks (i + 1) L := by
  have e := takeS h
  refine ⟨fun p hp => ?_, fun p hp => ?_, Nat.le_succ_of_le g.len⟩
  · rw [e]; exact List.mem_append_left _ (g.sub p hp)
  · rw [e] at hp
    rcases List.mem_append.mp hp with z | z
    · exact g.all p z
    · rw [List.mem_singleton.mp z]; exact hm
theorem Has.more {E : Type} {ks L L' : List (Value × E)} {i : Nat} {x : Value × E} (g : Has ks i L) (h : ks[i]? = some x) (pm : L'.Perm (x :: L)) : Has ks (i + 1) L' := by
  have e := takeS h
  refine ⟨fun p hp => ?_, fun p hp => ?_, by rw [pm.length_eq]; exact Nat.succ_le_succ g.len⟩
  · rw [e]
    rcases List.mem_cons.mp (pm.mem_iff.mp hp) with z | z
    · rw [z]; exact List.mem_append_right _ (List.mem_singleton.mpr rfl)
    · exact List.mem_append_left _ (g.sub p z)
  · rw [e] at hp
    rw [(pm.map (·.2)).mem_iff, List.map_cons]
    rcases List.mem_append.mp hp with z | z
    · exact List.mem_cons_of_mem _ (g.all p z)
    · rw [List.mem_singleton.mp z]; exact List.mem_cons_self
section
variable {P : Program} {w : World} {A : Around} {X : Value → Shared → Prop} {E : Type}
/-- the loop that puts items into a set -/
theorem upd_loop (κ : Knd P w E) {I : Addr} {fp wr : List Addr} {Gn : Array GenState → Array GenState → Prop} {n : Nat} {Pv : Nat → Value → Prop} {Sx : Nat → Shared → Prop} {R : Result → Shared → Prop}
    (Wk : WalksS P w A.in1 I fp wr Gn n Pv Sx) (S : Addr) (nS : S ∉ fp) (ks : List (Value × E)) (en : n = ks.length) (few : ks.length + 1 < κ.most) (hv : ∀ i v, Pv i v → ∃ p, ks[i]? = some p ∧ v = p.1)
    (h0 : Heap) (hk : ∀ p ∈ ks, κ.is h0 p.2 p.1) (none0 : h0.get? S = none) (noneW : ∀ b ∈ wr, h0.get? b = none) (refs : ∀ p ∈ ks, ∀ b, p.1 = .ref b → ∃ o, h0.get? b = some o) (un : A.in1.units < cLine) :
    ∀ (m i : Nat) (s : Shared), n - i = m → i ≤ n → Sx i s → (∀ b o, h0.get? b = some o → s.heap.get? b = some o) → (∃ L, κ.St s.heap S L ∧ Has ks i L) →
      (∀ s' L, Moved (S :: wr) Gn s s' → κ.St s'.heap S L → Has ks n L → (∀ b o, h0.get? b = some o → s'.heap.get? b = some o) → R (.ok (.ret .none)) s') →
      codeAny (model P w) A (.builtin "set.update.loop" ⟨[.ref S, .ref I], []⟩) R s := by
  have nW : S ∉ wr := fun z => nS (Wk.sub _ z)
  have cons : ∀ b ∈ wr, b ∈ S :: wr := fun b hb => .tail _ hb
  have step : ∀ {s s' : Shared}, Moved wr Gn s s' → (∀ b o, h0.get? b = some o → s.heap.get? b = some o) → ∀ b o, h0.get? b = some o → s'.heap.get? b = some o := fun mv kp b o e =>
    mv.heap b o (fun hb => by rw [noneW b hb] at e; cases e) (kp b o e)
  have stay : ∀ {s s' : Shared} {L : List (Value × E)} {i : Nat}, Moved wr Gn s s' → (∀ b o, h0.get? b = some o → s.heap.get? b = some o) → κ.St s.heap S L → Has ks i L → κ.St s'.heap S L := fun {s s' L i} mv kp st g => by
    refine κ.keep st fun b o e hb => ?_
    rcases hb with z | ⟨p, hp, z⟩
    · rw [z] at e ⊢; exact mv.heap S o nW e
    · obtain ⟨o', e'⟩ := refs p (List.mem_of_mem_take (g.sub p hp)) b z
      have e2 := kp b o' e'
      rw [e] at e2
      rw [Option.some.inj e2]
      exact step mv kp b o' e'
  intro m
  induction m with
  | zero =>
    rintro i s hm hi sx kp ⟨L, st, g⟩ hR
    obtain rfl : i = n := by omega
    refine codeAny_builtin PyProof.Rows.F.entry_set_update_loop ?_
    rw [Around.under_plainId PyProof.Rows.F.plain_set_update_loop _]
    show wpAny _ A.in1 (pyNext (.ref I) >>= _) _ _ s
    refine wpAny_bind (Wk.done s _ _ sx fun s' mv => ?_)
    show wpAny _ A.in1 (ret Value.none) _ _ s'
    exact wpAny_pure (hR s' L (mv.mono cons) (stay mv kp st g) g (step mv kp))
  | succ m ih =>
    rintro i s hm hi sx kp ⟨L, st, g⟩ hR
    have lt : i < n := by omega
    refine codeAny_builtin PyProof.Rows.F.entry_set_update_loop ?_
    rw [Around.under_plainId PyProof.Rows.F.plain_set_update_loop _]
    show wpAny _ A.in1 (pyNext (.ref I) >>= _) _ _ s
    refine wpAny_bind (Wk.item i s _ _ lt sx fun v s' pv sx' mv => ?_)
    obtain ⟨p, hp, rfl⟩ := hv i v pv
    have st' := stay mv kp st g
    have kp' := step mv kp
    show wpAny _ A.in1 (holding [p.1] (setAdd S p.1) >>= _) _ _ s'
    refine wpAny_bind (wpAny_holding (κ.add un st' (κ.isKeep (hk p (List.mem_of_getElem? hp)) kp') (by have := g.len; omega) fun b h' L' tk tle sb st2 c1 c2 => ?_))
    have g' : Has ks (i + 1) L' := by
      rcases Classical.em (p.2 ∈ L.map (·.2)) with c | c
      · rw [c1 c]; exact g.old hp c
      · exact g.more hp (c2 c)
    have kp2 : ∀ b o, h0.get? b = some o → h'.get? b = some o := fun b o e => (sb.2 b (fun z => by rw [z, none0] at e; cases e)).trans (kp' b o e)
    refine wpAny_pure ⟨plainId_quiet PyProof.Rows.F.plain_set_update_loop _, ih (i + 1) _ (by omega) lt (Wk.frame _ s' _ _ sx' tle fun c hc o e => ?_) kp2 ⟨L', st2, g'⟩ fun s'' L2 mv2 st3 g3 kp3 => ?_⟩
    · rw [sb.2 c (fun z => nS (by rw [← z]; exact hc))]; exact e
    · refine hR s'' L2 (Moved.trans Wk.gtrans ((mv.mono cons).then_heap tle fun c o hc e => ?_) mv2) st3 g3 kp3
      rw [sb.2 c (fun z => hc (by rw [z]; exact .head _))]; exact e
set_option maxHeartbeats 4000000 in
/-- set(l), l a list -/
theorem call_setof (κ : Knd P w E) {s : Shared} {l : Addr} {its : Array Value} (ks : List (Value × E)) {Q : Value → Shared → Prop} (calm : A.handled = none) (isl : s.heap.IsList l its) (eit : its.toList = ks.map (·.1))
    (hk : ∀ p ∈ ks, κ.is s.heap p.2 p.1) (few : ks.length + 1 < κ.most) (refs : ∀ p ∈ ks, ∀ b, p.1 = .ref b → ∃ o, s.heap.get? b = some o) (un : A.units + 3 < cLine)
    (q : ∀ (h' : Heap) (tk : Nat) L, κ.St h' s.heap.objs.size L → Has ks ks.length L → (∀ b o, s.heap.get? b = some o → h'.get? b = some o) → Q (.ref s.heap.objs.size) { s with heap := h', toks := tk }) :
    wpAny (model P w) A (call (.type "set") [.ref l]) Q X s := by
  have size : its.size = ks.length := by
    have z := congrArg List.length eit
    rwa [Array.length_toList, List.length_map] at z
  have gone : ∀ b, s.heap.objs.size ≤ b → s.heap.get? b = none := fun b hb => by
    cases z : s.heap.get? b with
    | none => rfl
    | some o => exact absurd (Nat.lt_of_lt_of_le (Heap.lt_size z) hb) (Nat.lt_irrefl _)
  obtain ⟨c, tl, m1⟩ := F.called_set.mro
  have m2 := F.called_set.made
  have m3 := F.called_set.sub
  refine wpAny_call (codeAny_of_tree ?_)
  show wpAny _ _ (callAny (.type "set") _) _ _ _
  refine wpAny_pure ⟨Code.quiet_builtin _ (by decide +kernel), codeAny_builtin F.entry_type_call ?_⟩
  rw [Around.under_plain (weight_type_call_type "set" [.ref l] []) rfl]
  have m4 := F.called_set.notType
  have m5 := F.called_set.canCreate
  have m6 := F.typeCall_set_1 (.ref l)
  repeat (any_goals (first | assumption | wp_step))
  refine codeAny_mono (code_set_led1 (.ref l) (E := X) (Q₁ := fun ob s1 => ob = .ref s.heap.objs.size ∧ s1 = { s with heap := s.heap.push (setO w) }) ⟨rfl, rfl⟩) fun r s1 hr => ?_
  cases r with
  | error e => exact hr
  | ok fl =>
    cases fl with
    | ret ob =>
      obtain ⟨rfl, rfl⟩ := hr
      have got : (s.heap.push (setO w)).get? s.heap.objs.size = some (setO w) := Heap.get?_push_size _ rfl
      have ty : Shared.TypeIs { s with heap := s.heap.push (setO w) } (.ref s.heap.objs.size) "set" := ⟨_, got, rfl⟩
      have m7 := F.called_set.init.lookup
      have m8 := F.called_set.init.bind (.ref s.heap.objs.size)
      repeat (any_goals (first | assumption | wp_step))
      refine codeAny_mono (codeAny_call_builtin (R := wants (fun r s2 => r = .none ∧ ∃ h' tk L, s2 = { s with heap := h', toks := tk } ∧ κ.St h' s.heap.objs.size L ∧ Has ks ks.length L ∧ (∀ b o, s.heap.get? b = some o → h'.get? b = some o)) X) F.called_set.init.plain F.entry_set_init (check_set_init_1 ty ?_)) fun r2 s2 hr2 => ?_
      · obtain ⟨ol, hol, hcl, nl, hdl⟩ := isl
        obtain ⟨oc, od, oda, osl⟩ := ol
        simp only at hcl hdl
        subst hcl; subst hdl
        have hol2 : (s.heap.push (setO w)).get? l = some { cls := .type "list", dict := od, data := .seq its nl, slots := osl } := Heap.get?_push_of_some _ hol
        have n1 := F.sub_list_set
        have n2 := F.sub_list_frozenset
        have n3 : (Value.type "list" == Value.type "dict") = false := by decide
        have isl2 : (s.heap.push (setO w)).IsList l its := ⟨_, hol2, rfl, nl, rfl⟩
        unfold Builtin.«set.__init__» noKeywords Builtin.Frozenset.updateFrom
        generalize ePI : pyIter = PI
        wp_walk
        subst ePI
        refine wpAny_pyIter_list isl2 ?_
        refine wpAny_bind (wpAny_runValue ?_)
        have ll : l < s.heap.objs.size := Heap.lt_size hol
        have cl3 : A.in1.in1.in1.handled = none := by simp [calm]
        have sp : (s.heap.push (setO w)).objs.size = s.heap.objs.size + 1 := Heap.size_push ..
        have nI : l ≠ (s.heap.push (setO w)).objs.size := by rw [sp]; exact Nat.ne_of_lt (Nat.lt_succ_of_lt ll)
        have nS : s.heap.objs.size ∉ [(s.heap.push (setO w)).objs.size, l] := fun z => by
          rw [sp] at z
          rcases List.mem_cons.mp z with z | z
          · exact absurd z (Nat.ne_of_lt (Nat.lt_succ_self _))
          · exact absurd (List.mem_singleton.mp z) (Nat.ne_of_gt ll)
        have hv : ∀ (i : Nat) (v : Value), its[i]? = some v → ∃ p, ks[i]? = some p ∧ v = p.1 := fun i v hi => by
          have z : its.toList[i]? = some v := by rw [Array.getElem?_toList]; exact hi
          rw [eit, List.getElem?_map] at z
          cases y : ks[i]? with
          | none => rw [y] at z; cases z
          | some p => rw [y] at z; exact ⟨p, rfl, (Option.some.inj z).symm⟩
        refine upd_loop κ ((Walks.list cl3 _ l nI its).toS) s.heap.objs.size nS ks size few hv s.heap hk (gone _ (Nat.le_refl _))
          (fun b hb => gone b (by rw [List.mem_singleton.mp hb, sp]; exact Nat.le_succ _)) refs un (its.size - 0) 0 _ (by omega) (Nat.zero_le _)
          ⟨⟨_, Heap.get?_push_size _ rfl, rfl, rfl⟩, (isl2.push _)⟩ (fun b o e => Heap.get?_push_of_some _ (Heap.get?_push_of_some _ e)) ⟨[], κ.new (Heap.get?_push_of_some _ got), Has.nil ks⟩ ?_
        intro s' L mv st g kp
        obtain ⟨h', gn, dr, tk, os⟩ := s'
        have e1 : gn = s.gens := mv.gens
        have e2 : dr = s.drawn := mv.drawn
        have e3 : os = s.os := mv.os
        subst e1; subst e2; subst e3
        show wpAny _ _ _ _ _ _
        refine wpAny_pure ?_
        show wpAny _ _ (ret Value.none) _ _ _
        rw [size] at g
        exact wpAny_pure ⟨rfl, h', tk, L, rfl, st, g, kp⟩
      · cases r2 with
        | error e => exact hr2
        | ok f2 =>
          cases f2 with
          | ret r =>
            obtain ⟨rfl, h', tk, L, rfl, st, g, kp⟩ := hr2
            repeat (any_goals (first | assumption | wp_step))
            exact q _ _ _ st g kp
          | _ => exact hr2.elim
    | _ => exact hr.elim
/-- len of a set -/
theorem call_lenof {s : Shared} {a : Addr} {vs : List Value} {Q : Value → Shared → Prop} (T : Tb w s.heap a vs) (ex : ∀ o, s.heap.get? a = some o → o.ExactSet) (q : Q (.int (vs.length : Nat) (s.toks + 1)) { s with toks := s.toks + 1 + 1 }) :
    wpAny (model P w) A (call (.builtin "len") [.ref a]) Q X s := by
  obtain ⟨es, ep, t, ⟨o, ho, hc, hd⟩, hf, hb, _, _, hv⟩ := T.ex
  have hz : es.size = vs.length := by rw [← hv, List.length_map, Array.length_toList]
  rw [← hz] at q
  refine call_len_set ho (ex o ho) hd hf ?_ q
  unfold scanBound at hb
  omega
end
end DL

set_option Elab.async false
set_option linter.all false
set_option maxRecDepth 100000
set_option maxHeartbeats 1000000
/-! DSb: members that are keys -/
namespace DL
open PySem PySem.Spec PyProof.Rows L2
theorem perm_back {α β : Type} (f : α → β) : ∀ {l m : List β}, l.Perm m → ∀ M : List α, m = M.map f → ∃ M' : List α, l = M'.map f ∧ M'.Perm M := by
  intro l m p
  induction p with
  | nil => intro M e; exact ⟨[], rfl, by cases M with | nil => exact .refl _ | cons a r => cases e⟩
  | cons x p ih =>
    intro M e
    cases M with
    | nil => cases e
    | cons a r =>
      rw [List.map_cons, List.cons.injEq] at e
      obtain ⟨M', e1, p1⟩ := ih r e.2
      exact ⟨a :: M', by rw [List.map_cons, e.1, e1], p1.cons a⟩
  | swap x y l =>
    intro M e
    match M, e with
    | [], e => cases e
    | [a], e => cases e
    | a :: b :: r, e =>
      rw [List.map_cons, List.map_cons, List.cons.injEq, List.cons.injEq] at e
      exact ⟨b :: a :: r, by rw [List.map_cons, List.map_cons, e.1, e.2.1, e.2.2], .swap a b r⟩
  | trans p q ih1 ih2 =>
    intro M e
    obtain ⟨M1, e1, p1⟩ := ih2 M e
    obtain ⟨M2, e2, p2⟩ := ih1 M1 e1
    exact ⟨M2, e2, p2.trans p1⟩
/-- an entry -/
abbrev ent (P : Program) (w : World) (p : Value × Key) : Int × Value := ((mixKind P w).hash p.2, p.1)
structure StK (P : Program) (w : World) (h : Heap) (a : Addr) (L : List (Value × Key)) : Prop where
  ex : ∃ o es ep t, h.get? a = some o ∧ o.ExactSet ∧ o.data = .set es ep t ∧ es.toList = L.map (ent P w) ∧ es.size < scanBound ∧ t.fits es.size = true ∧ Ris t.place.toList ∧ (w.params.followText "set-order" = true ∨ t.led = true)
  is : ∀ p ∈ L, keyIs p.2 p.1 = true
  nd : (L.map (·.2)).Nodup
theorem key_scan' {k : Key} {v : Value} (h : keyIs k v = true) : v.scannable = true := by
  rcases keyIs_shape h with ⟨i, t, rfl, rfl⟩ | ⟨x, t, rfl, rfl⟩ <;> rfl
section
variable {P : Program} {w : World} {A : Around} {X : Value → Shared → Prop} {s : Shared} {a : Addr} {L : List (Value × Key)}
theorem elems {es : Array (Int × Value)} (e : es.toList = L.map (ent P w)) (is : ∀ p ∈ L, keyIs p.2 p.1 = true) : ElemsOf (mixKind P w) es.toList := fun x hx => by
  rw [e] at hx
  obtain ⟨p, hp, rfl⟩ := List.mem_map.mp hx
  exact ⟨⟨p.2, is p hp, rfl⟩, key_scan' (is p hp)⟩
/-- what is stored behind a new member -/
theorem addK_tail {g : Bool → PySem.Sem Unit} (hg : ∀ (b : Bool) (s1 : Shared) (Q' : Unit → Shared → Prop), Q' () s1 → wpAny (model P w) A (g b) Q' X s1) {o : Obj} {es es1 : Array (Int × Value)} {ep : Nat} {t t2 : SetTable}
    (ob : s.heap.get? a = some o) (exa : o.ExactSet) (da : o.data = .set es ep t) {L1 : List (Value × Key)} (r1 : es1.toList = L1.map (ent P w)) (i1 : ∀ p ∈ L1, keyIs p.2 p.1 = true) (n1 : (L1.map (·.2)).Nodup)
    (z1 : es1.size < scanBound) (f2 : t2.fits es1.size = true) (ri : Ris t2.place.toList) (le : w.params.followText "set-order" = true ∨ t2.led = true) {wd : Bool} {R : Option Bool → Shared → Prop}
    (hR : ∀ h' L', Heap.SameBut a s.heap h' → StK P w h' a L' → L'.Perm L1 → R (some true) { s with heap := h' }) :
    wpAny (model P w) A (do
      storeSet a es1 t2
      if (!wd && t2.tooFull) = true then do
          g (relayAll t2 es1 (SetTable.grown es1.size)).2.2
          storeSet a (relayAll t2 es1 (SetTable.grown es1.size)).1 (relayAll t2 es1 (SetTable.grown es1.size)).2.1
          pure (some true)
        else pure (some true)) R X s := by
  refine wpAny_bind (wpAny_storeSet_of ob da ?_ (fits_of_scanBound z1))
  have ob1 := store_at (es' := es1) (t' := t2) ob da
  have sb1 := Heap.SameBut.update s.heap a (Obj.putSet es1 t2)
  split
  · have pm := relayAll_perm t2 es1 (SetTable.grown es1.size)
    have f3 := relayAll_fits t2 es1 (SetTable.grown es1.size)
    have r3 := relayAll_ris t2 es1 (SetTable.grown es1.size)
    have l3 := relayAll_led t2 es1 (SetTable.grown es1.size)
    generalize relayAll t2 es1 (SetTable.grown es1.size) = Z at pm f3 r3 l3 ⊢
    obtain ⟨es2, t3, gave⟩ := Z
    dsimp only at pm f3 r3 l3 ⊢
    have sz : es2.size = es1.size := by rw [← Array.length_toList, pm.length_eq, Array.length_toList]
    have z2 : es2.size < scanBound := by rw [sz]; exact z1
    obtain ⟨L2, e2, p2⟩ := perm_back (ent P w) pm L1 r1
    refine wpAny_bind (hg _ _ _ (wpAny_bind (wpAny_storeSet_of ob1 rfl ?_ (fits_of_scanBound z2))))
    exact wpAny_pure (hR _ L2 (sb1.trans (Heap.SameBut.update _ a _)) ⟨⟨_, es2, _, t3, store_at (es' := es2) (t' := t3) ob1 rfl, exa, rfl, e2, z2, f3, r3, le.imp id fun z => by rw [l3]; exact z⟩, fun p hp => i1 p (p2.mem_iff.mp hp), (p2.map (·.2)).nodup_iff.mpr n1⟩ p2)
  · exact wpAny_pure (hR _ L1 sb1 ⟨⟨_, es1, _, t2, ob1, exa, rfl, r1, z1, f2, ri, le⟩, i1, n1⟩ (.refl _))
theorem addK {k : Key} {x : Value} {Q : Bool → Shared → Prop} (St : StK P w s.heap a L) (hx : keyIs k x = true) (few : L.length + 1 < 4000)
    (hQ : ∀ b h' L', Heap.SameBut a s.heap h' → StK P w h' a L' → (k ∈ L.map (·.2) → L' = L) → (k ∉ L.map (·.2) → L'.Perm ((x, k) :: L)) → Q b { s with heap := h' }) :
    wpAny (model P w) A (setAddHashed a x ((mixKind P w).hash k)) Q X s := by
  obtain ⟨o, es, ep, t, ob, exa, da, rows, z0, f0, ri, le⟩ := St.ex
  have sc := key_scan' hx
  have el := elems rows St.is
  unfold setAddHashed setAddHashedIn
  refine wpAny_holding (wpAny_bind (wpAny_setState_of ob da f0 ?_))
  dsimp only
  rw [byScan_of sc z0 el]
  simp only [↓reduceIte]
  unfold setAddByScan
  refine wpAny_bind (wpAny_bind (wpAny_rule (wpAny_bind (wpAny_setScan_of (knd := mixKind P w) hx ob da f0 el ?_))))
  have inL : (∃ e ∈ es.toList, (mixKind P w).is k e.2 = true) ↔ k ∈ L.map (·.2) := by
    rw [rows]
    constructor
    · rintro ⟨e, he, ke⟩
      obtain ⟨p, hp, rfl⟩ := List.mem_map.mp he
      exact List.mem_map.mpr ⟨p, hp, (mixKind P w).inj _ _ _ (St.is p hp) ke⟩
    · intro hm
      obtain ⟨p, hp, rfl⟩ := List.mem_map.mp hm
      exact ⟨_, List.mem_map.mpr ⟨p, hp, rfl⟩, St.is p hp⟩
  cases fi : List.findIdx? (fun e => (mixKind P w).is k e.2) es.toList with
  | some j =>
    dsimp only
    obtain ⟨hj, pj, _⟩ := List.findIdx?_eq_some_iff_getElem.mp fi
    have hm : k ∈ L.map (·.2) := inL.mp ⟨es.toList[j], List.getElem_mem hj, pj⟩
    exact wpAny_pure (wpAny_pure (hQ _ s.heap L (Heap.SameBut.refl a s.heap) St (fun _ => rfl) fun z => absurd hm z))
  | none =>
    dsimp only
    have hm : k ∉ L.map (·.2) := fun z => by
      obtain ⟨e, he, ke⟩ := inL.mpr z
      have c := List.findIdx?_eq_none_iff.mp fi e he
      rw [ke] at c
      cases c
    have pm := layNew_perm t es ((mixKind P w).hash k) x
    have f1 := layNew_fits t es ((mixKind P w).hash k) x
    have r1 := layNew_ris t es ((mixKind P w).hash k) x ri
    have l1 := layNew_led t es ((mixKind P w).hash k) x
    generalize layNew t es ((mixKind P w).hash k) x = Z at pm f1 r1 l1 ⊢
    obtain ⟨es1, t1, wd, gave⟩ := Z
    dsimp only at pm f1 r1 l1 ⊢
    rw [Array.toList_push, rows] at pm
    obtain ⟨L1, e1, p1⟩ := perm_back (ent P w) pm (L ++ [(x, k)]) (by rw [List.map_append]; rfl)
    have p1 : L1.Perm ((x, k) :: L) := p1.trans (List.perm_append_singleton _ _)
    have i1 : ∀ p ∈ L1, keyIs p.2 p.1 = true := fun p hp => by
      rcases List.mem_cons.mp (p1.mem_iff.mp hp) with z | z
      · rw [z]; exact hx
      · exact St.is p z
    have n1 : (L1.map (·.2)).Nodup := (p1.map (·.2)).nodup_iff.mpr (List.nodup_cons.mpr ⟨hm, St.nd⟩)
    have sz : es1.size = L.length + 1 := by rw [← Array.length_toList, e1, List.length_map, p1.length_eq, List.length_cons]
    have z1 : es1.size < scanBound := by rw [sz]; unfold scanBound; omega
    have le1 : w.params.followText "set-order" = true ∨ t1.led = true := le.imp id fun z => by rw [l1]; exact z
    have fin : ∀ h' L', Heap.SameBut a s.heap h' → StK P w h' a L' → L'.Perm L1 → Q true { s with heap := h' } := fun h' L' sb st pl => hQ true h' L' sb st (fun z => absurd z hm) fun _ => pl.trans p1
    refine wpAny_bind ?_
    cases gave <;> first | refine wpAny_pure ?_ | refine wpAny_rule ?_
    all_goals
      split
      · rw [hashByValue_scannable 8 sc]
        refine wpAny_bind (wpAny_pure ?_)
        refine addK_tail ?_ ob exa da e1 i1 n1 z1 ?_ ?_ ?_ fun h' L' sb st pl => ?_
        · intro b s1 Q' q; cases b <;> first | exact wpAny_pure q | exact wpAny_rule q
        · first | (split <;> first | exact f1 | exact SetTable.fits_plain_off f1) | exact f1
        · first | (split <;> exact r1) | exact r1
        · first | (split <;> exact le1) | exact le1
        · dsimp only; exact wpAny_pure (fin h' L' sb st pl)
      · refine wpAny_bind (wpAny_pure ?_)
        simp only [↓reduceIte]
        refine addK_tail ?_ ob exa da e1 i1 n1 z1 f1 r1 le1 fun h' L' sb st pl => ?_
        · intro b s1 Q' q; cases b <;> first | exact wpAny_pure q | exact wpAny_rule q
        · dsimp only; exact wpAny_pure (fin h' L' sb st pl)
end
def kndK (P : Program) (w : World) : Knd P w Key where
  is := fun _ k v => keyIs k v = true
  St := StK P w
  most := 4000
  small := Nat.le_refl _
  isKeep := fun h _ => h
  isSame := fun h _ _ => h
  tb := fun {h a L} st => by
    obtain ⟨o, es, ep, t, ob, exa, da, rows, z0, f0, ri, le⟩ := st.ex
    exact ⟨es, ep, t, ⟨o, ob, exa.1, da⟩, f0, z0, ri, le, by rw [rows, List.map_map]; rfl⟩
  nd := fun st => st.nd
  new := fun {h a} ho => ⟨⟨_, #[], 0, _, ho, ⟨rfl, rfl, rfl⟩, rfl, rfl, by decide, rfl, List.Pairwise.nil, by
    show _ ∨ (!w.params.followText "set-order") = true
    cases w.params.followText "set-order"
    · exact .inr rfl
    · exact .inl rfl⟩, fun _ h => (by cases h), List.nodup_nil⟩
  keep := fun {h h' a L} st k => by
    obtain ⟨o, es, ep, t, ob, r⟩ := st.ex
    exact ⟨⟨o, es, ep, t, k a o ob (.inl rfl), r⟩, st.is, st.nd⟩
  add := fun {A X s a L x k Q} un st hx few hQ => by
    unfold setAdd
    refine wpAny_holding (wpAny_bind ((mixKind P w).pyHash hx ?_))
    exact addK (s := { s with toks := s.toks + 1 }) st hx few fun b h' L' sb st' c1 c2 => hQ b h' L' (s.toks + 1) (Nat.le_succ _) sb st' c1 c2
end DL

set_option Elab.async false
set_option linter.all false
set_option maxRecDepth 100000
set_option maxHeartbeats 2000000
/-! DSc: members that are tuples of keys -/
namespace DL
open PySem PySem.Spec PyProof.Rows L2
abbrev tH (P : Program) (w : World) (k : List Key) : Int := tupleKeyHash (mixKind P w) k
abbrev isTp (P : Program) (w : World) (h : Heap) (k : List Key) (v : Value) : Prop := ∃ b, v = .ref b ∧ IsTupleKey (mixKind P w) h k b
abbrev entT (P : Program) (w : World) (p : Value × List Key) : Int × Value := (tH P w p.2, p.1)
structure TSet (P : Program) (w : World) (h : Heap) (a : Addr) (L : List (Value × List Key)) (es : Array (Int × Value)) (ep : Nat) (t : SetTable) : Prop where
  ob : ∃ o, h.get? a = some o ∧ o.ExactSet ∧ o.data = .set es ep t
  rows : es.toList = L.map (entT P w)
  tab : TabOk t (L.map fun p => tH P w p.2)
  led : w.params.followText "set-order" = true ∨ t.led = true
  room : L.length * 5 < t.mask * 3
  is : ∀ p ∈ L, isTp P w h p.2 p.1
  nd : (L.map (·.2)).Nodup
section
variable {P : Program} {w : World} {A : Around} {X : Value → Shared → Prop} {s : Shared} {a : Addr} {L : List (Value × List Key)} {es : Array (Int × Value)} {ep : Nat} {t : SetTable}
theorem items_key {k : List Key} {vs : List Value} (h : ItemsAre (mixKind P w) k vs) : ∀ v ∈ vs, (∃ i t, v = Value.int i t) ∨ ∃ x t, v = Value.str x t := by
  induction h with
  | nil => intro v hv; cases hv
  | @cons k0 v0 ks vs h1 _ ih =>
    intro v hv
    rcases List.mem_cons.mp hv with e | hv
    · rcases keyIs_shape (show keyIs k0 v0 = true from h1) with ⟨i, t, _, e2⟩ | ⟨x, t, _, e2⟩
      · exact .inl ⟨i, t, e.trans e2⟩
      · exact .inr ⟨x, t, e.trans e2⟩
    · exact ih v hv
theorem ofAClassK {n : Nat} {v : Value} (h : (∃ i t, v = Value.int i t) ∨ ∃ x t, v = Value.str x t) : ofAClassStatement n v = pure false := by
  rcases h with ⟨i, t, rfl⟩ | ⟨x, t, rfl⟩ <;> cases n <;> rfl
theorem hashByK {n : Nat} {v : Value} (h : (∃ i t, v = Value.int i t) ∨ ∃ x t, v = Value.str x t) : ∃ b, hashByValue n v = pure b := by
  rcases h with ⟨i, t, rfl⟩ | ⟨x, t, rfl⟩ <;> cases n <;> exact ⟨_, rfl⟩
theorem ofAClassT {k : List Key} {b : Addr} {Q : Bool → Shared → Prop} (hk : IsTupleKey (mixKind P w) s.heap k b) (q : Q false s) : wpAny (model P w) A (ofAClassStatement 8 (.ref b)) Q X s := by
  have ty := hk.typeIs
  obtain ⟨o, its, n, ho, _, hd, hi⟩ := hk
  unfold ofAClassStatement
  refine wpAny_bind (wpAny_typeOf ty ?_)
  dsimp only
  have e : (("tuple" : String) == "tuple") = true := by decide
  simp only [e, if_true, Bool.not_true, Bool.false_eq_true, if_false]
  try refine wpAny_bind (wpAny_pure ?_)
  try simp only [Bool.not_true, Bool.false_eq_true, if_false]
  show wpAny _ _ (seqItems? (.ref b) >>= _) _ _ s
  refine wpAny_bind (wpAny_seqItems ho hd ?_)
  dsimp only
  refine wpAny_bind ?_
  show wpAny _ _ (forIn its _ _) _ _ s
  rw [← Array.forIn_toList]
  refine wpAny_forIn_list _ (fun rs r s' => r.1 = none ∧ s' = s ∧ ∀ v ∈ rs, (∃ i t, v = Value.int i t) ∨ ∃ x t, v = Value.str x t) _ ?_ ?_ _ _ ⟨rfl, rfl, items_key hi⟩
  · rintro v rs r s' ⟨hr, rfl, all⟩
    rw [ofAClassK (all v (.head _))]
    refine wpAny_bind (wpAny_pure ?_)
    simp only [Bool.false_eq_true, if_false]
    exact wpAny_pure ⟨rfl, rfl, fun u hu => all u (.tail _ hu)⟩
  · rintro ⟨r1, r2⟩ s' ⟨hr, rfl, _⟩
    simp only at hr
    subst hr
    exact wpAny_pure q
theorem hashByT {k : List Key} {b : Addr} {Q : Bool → Shared → Prop} (hk : IsTupleKey (mixKind P w) s.heap k b) (q : ∀ r, Q r s) : wpAny (model P w) A (hashByValue 8 (.ref b)) Q X s := by
  have ty := hk.typeIs
  obtain ⟨o, its, n, ho, _, hd, hi⟩ := hk
  unfold hashByValue
  refine wpAny_bind (wpAny_specialOf ty F.slot_tuple_hash.lookup ?_)
  show wpAny _ _ (seqItems? (.ref b) >>= _) _ _ s
  refine wpAny_bind (wpAny_seqItems ho hd ?_)
  refine wpAny_bind ?_
  show wpAny _ _ (forIn its _ _) _ _ s
  rw [← Array.forIn_toList]
  refine wpAny_forIn_list _ (fun rs r s' => s' = s ∧ ∀ v ∈ rs, (∃ i t, v = Value.int i t) ∨ ∃ x t, v = Value.str x t) _ ?_ ?_ _ _ ⟨rfl, items_key hi⟩
  · rintro v rs r s' ⟨rfl, all⟩
    obtain ⟨b', e⟩ := hashByK (n := 7) (all v (.head _))
    rw [e]
    refine wpAny_bind (wpAny_pure ?_)
    cases b' with
    | true =>
      simp only [Bool.not_true, Bool.false_eq_true, if_false]
      exact wpAny_pure ⟨rfl, fun u hu => all u (.tail _ hu)⟩
    | false =>
      simp only [Bool.not_false, if_true]
      exact wpAny_pure (wpAny_pure (q _))
  · rintro ⟨r1, r2⟩ s' ⟨rfl, _⟩
    cases r1 with
    | none => exact wpAny_pure (q _)
    | some b' => exact wpAny_pure (q _)
theorem seenT {k : List Key} {b : Addr} {Q : Bool → Shared → Prop} (hk : IsTupleKey (mixKind P w) s.heap k b) {ys : List Value} (hy : ∀ y ∈ ys, ∃ k', isTp P w s.heap k' y) (q : Q false s) :
    wpAny (model P w) A (searchCouldBeSeen (.ref b) ys) Q X s := by
  unfold searchCouldBeSeen
  refine wpAny_bind ?_
  refine wpAny_forIn_list _ (fun rs r s' => r.1 = none ∧ s' = s ∧ ∀ y ∈ rs, ∃ k', isTp P w s.heap k' y) _ ?_ ?_ _ _ ⟨rfl, rfl, hy⟩
  · rintro v rs r s' ⟨hr, rfl, all⟩
    obtain ⟨k', c, rfl, hc⟩ := all v (.head _)
    have all' : ∀ y ∈ rs, ∃ k', isTp P w s'.heap k' y := fun u hu => all u (.tail _ hu)
    dsimp only
    by_cases z : (b == c || (carriedByValue (.ref b) && carriedByValue (.ref c))) = true
    · exact wp_if_pos z (wpAny_pure ⟨rfl, rfl, all'⟩)
    · refine wp_if_neg z (wpAny_bind (wpAny_eqIsQuiet_tuple hk ?_))
      simp only [Bool.not_true, Bool.false_eq_true, if_false]
      refine wpAny_bind (wpAny_eqIsQuiet_tuple hc ?_)
      simp only [Bool.not_true, Bool.false_eq_true, if_false]
      refine wpAny_bind (ofAClassT hk ?_)
      simp only [Bool.false_eq_true, if_false]
      refine wpAny_bind (ofAClassT hc ?_)
      simp only [Bool.false_eq_true, if_false]
      exact wpAny_pure ⟨rfl, rfl, all'⟩
  · rintro ⟨r1, r2⟩ s' ⟨hr, rfl, _⟩
    simp only at hr
    subst hr
    exact wpAny_pure q
theorem TSet.size (R : TSet P w s.heap a L es ep t) : es.size = L.length := by
  have z := congrArg List.length R.rows
  rwa [Array.length_toList, List.length_map] at z
theorem TSet.fits (R : TSet P w s.heap a L es ep t) : t.fits es.size = true := by
  have z1 := R.tab.sz
  rw [List.length_map] at z1
  have z2 := R.size
  have z3 := R.room
  unfold SetTable.fits SetTable.fill
  rw [R.tab.dm, Bool.and_eq_true, beq_iff_eq, decide_eq_true_eq]
  show t.place.size = es.size ∧ t.place.size + 0 ≤ t.mask
  omega
theorem TSet.row (R : TSet P w s.heap a L es ep t) {i : Nat} {p : Value × List Key} (h : L[i]? = some p) : es[i]? = some (tH P w p.2, p.1) := by
  rw [← Array.getElem?_toList, R.rows, List.getElem?_map, h]; rfl
/-- the first step of the way of k -/
abbrev way0 (m : Nat) (h : Int) : SetTable.Probe := runAt m (SetTable.bits h % (m + 1)) (SetTable.bits h)
theorem nd_way (m : Nat) (h : Int) (c : Nat) : (nth m (way0 m h) c).dummy = none := by
  have key : ∀ (n : Nat) (p : SetTable.Probe), p.dummy = none → (nth m p n).dummy = none := by
    intro n
    induction n with
    | zero => intro p z; exact z
    | succ n ih =>
      intro p z
      refine ih (adv m p) ?_
      unfold adv
      split <;> exact z
  exact key c _ rfl
/-- the search for the tuple x of the keys k: K steps lead to the first free slot -/
theorem srch (R : TSet P w s.heap a L es ep t) {x : Addr} {k : List Key} (hx : IsTupleKey (mixKind P w) s.heap k x) (un : A.units < cLine) {K : Nat} (kf : K < 10 * SetTable.turns t.mask)
    (hK : way t.mask (tH P w k) K ∉ t.place.toList) (hb : ∀ c, c < K → way t.mask (tH P w k) c ∈ t.place.toList) {Q : SetFound → Shared → Prop}
    (yes : k ∈ L.map (·.2) → Q (.there none) s) (no : k ∉ L.map (·.2) → Q (.free (way t.mask (tH P w k) K) false) s) :
    ∀ (f c : Nat) (st : Option SetTable.Probe), st.getD (t.probeStart (tH P w k)) = nth t.mask (way0 t.mask (tH P w k)) c → c ≤ K → K - c < f →
      (∀ (i : Nat) p, L[i]? = some p → p.2 = k → ∃ c', c ≤ c' ∧ c' < K ∧ t.place.toList[i]? = some (way t.mask (tH P w k) c')) →
      wpAny (model P w) A (setSearchFrom a (.ref x) (tH P w k) true f st) Q X s := by
  obtain ⟨o, ho, exa, hd⟩ := R.ob
  have hash : ∀ (i : Nat) p, L[i]? = some p → (fun i => (es[i]?.map (·.1)).getD 0) i = tH P w p.2 := fun i p hp => by
    show (es[i]?.map (·.1)).getD 0 = _
    rw [R.row hp]; rfl
  intro f
  induction f with
  | zero => intro c st _ _ z; exact absurd z (Nat.not_lt_zero _)
  | succ f ih =>
    intro c st est hc hf hre
    have sh : ∀ q, nth t.mask (nth t.mask (way0 t.mask (tH P w k)) c) q = nth t.mask (way0 t.mask (tH P w k)) (c + q) := fun q => (nth_add t.mask c _ q).symm
    have sj : ∀ q, (nth t.mask (nth t.mask (way0 t.mask (tH P w k)) c) q).j = way t.mask (tH P w k) (c + q) := fun q => congrArg SetTable.Probe.j (sh q)
    have spec := go_spec t R.tab.ris R.tab.dm (fun i => (es[i]?.map (·.1)).getD 0) (tH P w k) (10 * SetTable.turns t.mask) (K - c) _ (nd_way t.mask (tH P w k) c) (by omega)
      (fun q hq => by rw [sj]; exact hb (c + q) (by omega)) (by rw [sj, show c + (K - c) = K by omega]; exact hK)
    rw [setSearchFrom_succ]
    refine wpAny_bind (wpAny_setState_of ho hd R.fits ?_)
    dsimp only
    have gw : ¬ t.gaveWay = true := by
      unfold SetTable.gaveWay
      rw [mask_odd R.tab.mok]
      decide
    refine wp_if_neg gw ?_
    try refine wpAny_bind (wpAny_pure ?_)
    rcases spec with ⟨q, i, hq, hi, hh, hno, hpr⟩ | ⟨hno, hpr⟩
    · have pr : t.probe (fun i => (es[i]?.map (·.1)).getD 0) (tH P w k) (st.getD (t.probeStart (tH P w k))) = some (.candidate (way t.mask (tH P w k) (c + q)) i (nth t.mask (way0 t.mask (tH P w k)) (c + (q + 1)))) := by
        rw [est, ← sj, ← sh]
        exact hpr
      rw [pr]
      dsimp only
      rw [sj] at hi
      have il : i < L.length := by
        have z1 : i < t.place.toList.length := (List.getElem?_eq_some_iff.mp hi).1
        have z2 := R.tab.sz
        rw [List.length_map] at z2
        rw [Array.length_toList] at z1
        omega
      obtain ⟨p, hp⟩ : ∃ p, L[i]? = some p := ⟨_, List.getElem?_eq_getElem il⟩
      have pm : p ∈ L := List.mem_of_getElem? hp
      obtain ⟨pa, pe, pt⟩ := R.is p pm
      have rest : wpAny (model P w) A (searchRest a (.ref x) (tH P w k) true f es t (way t.mask (tH P w k) (c + q)) i (nth t.mask (way0 t.mask (tH P w k)) (c + (q + 1)))) Q X s := by
        unfold searchRest
        rw [R.row hp, pe]
        dsimp only
        refine wpAny_bind (wpAny_holding (wpAny_eqBool_tuple un pt hx (wpAny_bind (wpAny_setState_of ho hd R.fits ?_))))
        dsimp only
        by_cases ek : p.2 = k
        · exact wp_if_pos (by simp [ek]) (wpAny_pure (yes (List.mem_map.mpr ⟨p, pm, ek⟩)))
        · refine wp_if_neg (by simp [ek]) ?_
          try refine wpAny_bind (wpAny_pure ?_)
          rw [sameMem]
          dsimp only
          have sl : t.slot (way t.mask (tH P w k) (c + q)) = .live i := slot_live R.tab.ris hi
          simp only [if_true, sl, R.row hp, pe]
          refine wpAny_bind (wpAny_isSame_ref_self (wpAny_bind (wpAny_pure ?_)))
          simp only [if_true]
          refine wp_if_neg (by simp [ek]) (ih (c + (q + 1)) _ rfl (by omega) (by omega) fun j p0 h0 k0 => ?_)
          obtain ⟨c', a1, a2, a3⟩ := hre j p0 h0 k0
          refine ⟨c', Classical.byContradiction fun z => ?_, a2, a3⟩
          rcases Nat.lt_or_ge c' (c + q) with y | y
          · refine hno (c' - c) j (by omega) (by rw [sj, show c + (c' - c) = c' by omega]; exact a3) ?_
            exact (hash j p0 h0).trans (congrArg (tH P w) k0)
          · have ec : c' = c + q := by omega
            rw [ec] at a3
            have s0 := slot_live R.tab.ris a3
            rw [sl] at s0
            injection s0 with s0
            rw [← s0, hp] at h0
            exact ek ((congrArg Prod.snd (Option.some.inj h0)).trans k0)
      by_cases hl : t.led = true
      · refine wp_if_neg (by simp [hl]) ?_
        try refine wpAny_bind (wpAny_pure ?_)
        exact rest
      · refine wp_if_pos (by simp [hl]) (wpAny_bind (seenT hx (fun y hy => ?_) ?_))
        · obtain ⟨e, he, ee⟩ := List.mem_map.mp hy
          have he1 : e ∈ es ∧ e.1 = tH P w k := by simpa using he
          have he2 : e ∈ es.toList := by simpa using he1.1
          rw [R.rows] at he2
          obtain ⟨p2, hp2, e2⟩ := List.mem_map.mp he2
          refine ⟨p2.2, ?_⟩
          rw [← ee, ← e2]
          exact R.is p2 hp2
        · refine wp_if_neg (by decide) ?_
          try refine wpAny_bind (wpAny_pure ?_)
          exact rest
    · have pr : t.probe (fun i => (es[i]?.map (·.1)).getD 0) (tH P w k) (st.getD (t.probeStart (tH P w k))) = some (.empty (way t.mask (tH P w k) K) none) := by
        have e2 : way t.mask (tH P w k) K = (nth t.mask (nth t.mask (way0 t.mask (tH P w k)) c) (K - c)).j := by rw [sj, show c + (K - c) = K by omega]
        rw [est, e2]
        exact hpr
      rw [pr]
      dsimp only
      refine wpAny_pure (no fun hm => ?_)
      obtain ⟨p0, h0, k0⟩ := List.mem_map.mp hm
      obtain ⟨j, hj⟩ := List.mem_iff_getElem?.mp h0
      obtain ⟨c', a1, a2, a3⟩ := hre j p0 hj k0
      exact hno (c' - c) j (by omega) (by rw [sj, show c + (c' - c) = c' by omega]; exact a3) ((hash j p0 hj).trans (congrArg (tH P w) k0))
theorem srch0 (R : TSet P w s.heap a L es ep t) {x : Addr} {k : List Key} (hx : IsTupleKey (mixKind P w) s.heap k x) (un : A.units < cLine) {Q : SetFound → Shared → Prop} (yes : k ∈ L.map (·.2) → Q (.there none) s)
    (no : ∀ K, k ∉ L.map (·.2) → way t.mask (tH P w k) K ∉ t.place.toList → (∀ c, c < K → way t.mask (tH P w k) c ∈ t.place.toList) → Q (.free (way t.mask (tH P w k) K) false) s) :
    wpAny (model P w) A (setSearch a (.ref x) (tH P w k) true) Q X s := by
  have rm := R.room
  obtain ⟨K, kf, hK, hb⟩ := R.tab.first (by rw [List.length_map]; omega) (tH P w k)
  have big : K < 100000 := by
    have : 10 * SetTable.turns t.mask ≤ 1420 := by
      unfold SetTable.turns
      rcases R.tab.mok with e | e | e <;> omega
    omega
  unfold setSearch
  refine srch R hx un kf hK hb yes (fun hn => no K hn hK hb) 100000 0 none rfl (Nat.zero_le _) (by omega) fun i p hp hk => ?_
  have z1 : (L.map fun p => tH P w p.2)[i]? = some (tH P w k) := by rw [List.getElem?_map, hp, ← hk]; rfl
  have z2 : i < t.place.toList.length := by
    have y1 : i < L.length := (List.getElem?_eq_some_iff.mp hp).1
    have y2 := R.tab.sz
    rw [List.length_map] at y2
    rw [Array.length_toList]
    omega
  have z3 := List.getElem?_eq_getElem z2
  obtain ⟨c, hc, e⟩ := R.tab.before hK z1 z3
  exact ⟨c, Nat.zero_le _, hc, by rw [z3, e]⟩
end
end DL

set_option Elab.async false
set_option linter.all false
set_option maxRecDepth 100000
set_option maxHeartbeats 2000000
/-! DSd: tuples put into a set -/
namespace DL
open PySem PySem.Spec PyProof.Rows L2
theorem range_get {α : Type} (L : List α) : (List.range L.length).filterMap (fun i => L[i]?) = L := by
  have key : ∀ n, n ≤ L.length → (List.range n).filterMap (fun i => L[i]?) = L.take n := by
    intro n
    induction n with
    | zero => intro _; rfl
    | succ n ih =>
      intro hn
      rw [List.range_succ, List.filterMap_append, ih (Nat.le_of_lt hn), List.take_succ, List.filterMap_cons_some (List.getElem?_eq_getElem hn), List.getElem?_eq_getElem hn]
      rfl
  rw [key L.length (Nat.le_refl _), List.take_length]
theorem ord_rows {α : Type} (f : α → Int × Value) (L : List α) (es : Array (Int × Value)) (ord : List Nat) (hr : es.toList = L.map f) (hp : ord.Perm (List.range L.length)) :
    ∃ L2 : List α, ord.filterMap (fun i => es[i]?) = L2.map f ∧ L2.Perm L ∧ (L2.map fun p => (f p).1) = ord.map fun i => (es.map (·.1)).getD i 0 := by
  have at' : ∀ i (h : i < L.length), es[i]? = some (f L[i]) := fun i h => by
    rw [← Array.getElem?_toList, hr, List.getElem?_map, List.getElem?_eq_getElem h]; rfl
  refine ⟨ord.filterMap fun i => L[i]?, ?_, (hp.filterMap _).trans (by rw [range_get]), ?_⟩
  · rw [List.map_filterMap]
    congr 1
    funext i
    rw [← Array.getElem?_toList, hr, List.getElem?_map]
  · have key : ∀ l : List Nat, (∀ i ∈ l, i < L.length) → ((l.filterMap fun i => L[i]?).map fun p => (f p).1) = l.map fun i => (es.map (·.1)).getD i 0 := by
      intro l
      induction l with
      | nil => intro _; rfl
      | cons i r ih =>
        intro hl
        have hi := hl i (.head _)
        rw [List.filterMap_cons_some (List.getElem?_eq_getElem hi), List.map_cons, List.map_cons, ih fun j hj => hl j (.tail _ hj)]
        have e5 : (es.map (·.1))[i]? = some (f L[i]).1 := by rw [Array.getElem?_map, at' i hi]; rfl
        rw [Array.getD_eq_getD_getElem?, e5]
        rfl
    exact key ord fun i hi => List.mem_range.mp (hp.mem_iff.mp hi)
section
variable {P : Program} {w : World} {A : Around} {X : Value → Shared → Prop} {s : Shared} {a : Addr} {L : List (Value × List Key)} {es : Array (Int × Value)} {ep : Nat} {t : SetTable}
theorem isTp_same {h h' : Heap} {k : List Key} {v : Value} {o : Obj} (hv : isTp P w h k v) (ho : h.get? a = some o) (hd : o.data = .set es ep t) (sb : Heap.SameBut a h h') : isTp P w h' k v := by
  obtain ⟨b, rfl, o', its, n, ho', hc, hd', hi⟩ := hv
  have ne : b ≠ a := by
    rintro rfl
    obtain rfl : o' = o := Option.some.inj (ho'.symm.trans ho)
    rw [hd] at hd'
    exact nomatch hd'
  exact ⟨b, rfl, o', its, n, (sb.2 b ne).trans ho', hc, hd', hi⟩
theorem relayT {o : Obj} (ho : s.heap.get? a = some o) (exa : o.ExactSet) (hd : o.data = .set es ep t) (rows : es.toList = L.map (entT P w)) (sz : t.place.size = es.size) (dm : t.dummies = #[]) (fl : es.size ≤ t.mask)
    (nd : (L.map (·.2)).Nodup) (is : ∀ p ∈ L, isTp P w s.heap p.2 p.1) (ld : w.params.followText "set-order" = true ∨ t.led = true) {wanted M : Nat}
    (hw : SetTable.sizeAbove wanted - 1 = M) (hM : MaskOk M) (hw2 : SetTable.sizeAbove wanted ≤ 128) (hn : L.length * 5 < M * 3) {Q : Unit → Shared → Prop}
    (hQ : ∀ h' L' es' ep' t', Heap.SameBut a s.heap h' → TSet P w h' a L' es' ep' t' → L'.Perm L → Q () { s with heap := h' }) : wpAny (model P w) A (setRelay a wanted) Q X s := by
  have sl : es.size = L.length := by
    have z := congrArg List.length rows
    rwa [Array.length_toList, List.length_map] at z
  have ft : t.fits es.size = true := by
    unfold SetTable.fits SetTable.fill
    rw [dm, Bool.and_eq_true, beq_iff_eq, decide_eq_true_eq]
    show t.place.size = es.size ∧ t.place.size + 0 ≤ t.mask
    omega
  obtain ⟨t', order, e, hp, T, em, el, _, _⟩ := relaid_ok t (hs := es.map (·.1)) (wanted := wanted) hw hM (by rw [Array.size_map, sl]; omega)
  rw [Array.size_map, sl] at hp
  obtain ⟨L2, r1, r2, r3⟩ := ord_rows (entT P w) L es order.toList rows hp
  have T2 : TabOk t' (L2.map fun p => tH P w p.2) := by
    have z : (L2.map fun p => (entT P w p).1) = L2.map fun p => tH P w p.2 := rfl
    rw [← z, r3]
    exact T
  have r1' : (order.filterMap (es[·]?)).toList = L2.map (entT P w) := by
    first | (rw [Array.toList_filterMap]; exact r1) | simpa using r1
  have sz2 : (order.filterMap (es[·]?)).size = es.size := by
    have z := congrArg List.length r1'
    rw [Array.length_toList, List.length_map, r2.length_eq] at z
    rw [z, sl]
  rw [setRelay_eq]
  refine wpAny_bind (wpAny_setState_of ho hd ft ?_)
  dsimp only
  refine wp_if_neg (by rw [sizeLine_eq]; omega) ?_
  try refine wpAny_bind (wpAny_pure ?_)
  rw [e]
  dsimp only
  refine wpAny_bind (wp_if_neg (by rw [sz2]; simp) ?_)
  try refine wpAny_bind (wpAny_pure ?_)
  refine wpAny_pure ?_
  dsimp only
  have sb : Heap.SameBut a s.heap (s.heap.update a (Obj.putSet (order.filterMap (es[·]?)) t')) := Heap.SameBut.update ..
  refine wpAny_storeSet_of ho hd (hQ _ L2 (order.filterMap (es[·]?)) (ep + 1) t' sb ⟨⟨_, store_at ho hd, ⟨exa.1, exa.2.1, exa.2.2⟩, rfl⟩, r1', T2, by rw [el]; exact ld, ?_, fun p hp => isTp_same (is p (r2.mem_iff.mp hp)) ho hd sb, (r2.map (·.2)).nodup_iff.mpr nd⟩ r2) (by rw [sz2, sl, sizeLine_eq]; rcases hM with z | z | z <;> omega)
  rw [r2.length_eq, em]
  exact hn
theorem addT (R : TSet P w s.heap a L es ep t) {x : Addr} {k : List Key} (hx : IsTupleKey (mixKind P w) s.heap k x) (un : A.units < cLine) (few : L.length + 1 < 75) {Q : Bool → Shared → Prop}
    (hQ : ∀ b h' L' es' ep' t', Heap.SameBut a s.heap h' → TSet P w h' a L' es' ep' t' → (k ∈ L.map (·.2) → L' = L) → (k ∉ L.map (·.2) → L'.Perm ((.ref x, k) :: L)) → Q b { s with heap := h' }) :
    wpAny (model P w) A (setAddHashed a (.ref x) (tH P w k)) Q X s := by
  obtain ⟨o, ho, exa, hd⟩ := R.ob
  have sl := R.size
  have rm := R.room
  unfold setAddHashed
  refine wpAny_holding ?_
  rw [show (100000 : Nat) = 99999 + 1 from rfl, setAddHashedIn_succ]
  refine wpAny_bind (wpAny_setState_of ho hd R.fits ?_)
  dsimp only
  refine wp_if_neg (by simp [byScan, Value.scannable]) ?_
  try refine wpAny_bind (wpAny_pure ?_)
  refine wpAny_bind (srch0 R hx un (fun hm => ?_) fun K hm hK hb => ?_)
  · dsimp only
    exact wpAny_pure (hQ false s.heap L es ep t (Heap.SameBut.refl a s.heap) R (fun _ => rfl) fun z => absurd hm z)
  · dsimp only
    refine wpAny_bind (wpAny_setState_of ho hd R.fits ?_)
    dsimp only
    obtain ⟨q1, q2, q3, q4, q5, _, _, _, q9⟩ := R.tab.put hK hb
    generalize t.put (way t.mask (tH P w k) K) = pt at q1 q3 q4 q5 q9 ⊢
    obtain ⟨t1, p⟩ := pt
    dsimp only at q1 q3 q4 q5 q9 ⊢
    subst q1
    have rw1 : (SetTable.insertAt es (SetTable.below t.place (way t.mask (tH P w k) K)) (tH P w k, Value.ref x)).toList = (L.take (SetTable.below t.place (way t.mask (tH P w k) K)) ++ (.ref x, k) :: L.drop (SetTable.below t.place (way t.mask (tH P w k) K))).map (entT P w) := by
      rw [SetTable.toList_insertAt, R.rows, List.map_append, List.map_cons, List.map_take, List.map_drop]
    generalize SetTable.below t.place (way t.mask (tH P w k) K) = p at q2 q3 rw1 ⊢
    have pm : (L.take p ++ (Value.ref x, k) :: L.drop p).Perm ((.ref x, k) :: L) := by
      have z : (L.take p ++ (Value.ref x, k) :: L.drop p).Perm ((.ref x, k) :: (L.take p ++ L.drop p)) := List.perm_middle
      rwa [List.take_append_drop] at z
    have ln : (L.take p ++ (Value.ref x, k) :: L.drop p).length = L.length + 1 := pm.length_eq
    have hs : (L.take p ++ (Value.ref x, k) :: L.drop p).map (fun p => tH P w p.2) = (L.map fun p => tH P w p.2).take p ++ tH P w k :: (L.map fun p => tH P w p.2).drop p := by
      rw [List.map_append, List.map_cons, List.map_take, List.map_drop]
    rw [← hs] at q3
    have nd1 : ((L.take p ++ (Value.ref x, k) :: L.drop p).map (·.2)).Nodup := (pm.map (·.2)).nodup_iff.mpr (List.nodup_cons.mpr ⟨hm, R.nd⟩)
    have sz1 : (SetTable.insertAt es p (tH P w k, Value.ref x)).size = L.length + 1 := by
      have z := congrArg List.length rw1
      rwa [Array.length_toList, List.length_map, ln] at z
    generalize SetTable.insertAt es p (tH P w k, Value.ref x) = es1 at rw1 sz1 ⊢
    generalize L.take p ++ (Value.ref x, k) :: L.drop p = L1 at pm ln q3 nd1 rw1
    have stp : ∀ t2 : SetTable, TabOk t2 (L1.map fun p => tH P w p.2) → t2.mask = t.mask → t2.led = t.led → t2.fill = L.length + 1 → wpAny (model P w) A (do
        storeSet a es1 t2
        if (!false && t2.tooFull) = true then setRelay a (SetTable.grown (es.size + 1))
        return true) Q X s := fun t2 T2 m2 l2 f2 => by
      refine wpAny_bind (wpAny_storeSet_of ho hd ?_ (by rw [sz1, sizeLine_eq]; omega))
      have sb : Heap.SameBut a s.heap (s.heap.update a (Obj.putSet es1 t2)) := Heap.SameBut.update ..
      have ho1 := store_at (es' := es1) (t' := t2) ho hd
      generalize s.heap.update a (Obj.putSet es1 t2) = h1 at sb ho1 ⊢
      have is1 : ∀ p ∈ L1, isTp P w h1 p.2 p.1 := fun p hp => by
        rcases List.mem_cons.mp (pm.mem_iff.mp hp) with e | hp
        · rw [e]; exact isTp_same ⟨x, rfl, hx⟩ ho hd sb
        · exact isTp_same (R.is p hp) ho hd sb
      have ld1 : w.params.followText "set-order" = true ∨ t2.led = true := by rw [l2]; exact R.led
      by_cases hf : t2.tooFull = true
      · have full : (L.length + 1) * 5 ≥ t2.mask * 3 := by
          have z := hf
          unfold SetTable.tooFull at z
          rwa [decide_eq_true_eq, f2] at z
        have pz : t2.place.size = es1.size := by
          have z := T2.sz
          rw [List.length_map, ln] at z
          rw [z, sz1]
        have go : ∀ M, SetTable.sizeAbove (SetTable.grown (L.length + 1)) - 1 = M → MaskOk M → SetTable.sizeAbove (SetTable.grown (L.length + 1)) ≤ 128 → (L.length + 1) * 5 < M * 3 → L.length + 1 ≤ t2.mask →
            wpAny (model P w) A (setRelay a (SetTable.grown (L.length + 1))) (fun _ s' => wpAny (model P w) A (pure true) Q X s') X { s with heap := h1 } := fun M g1 g2 g3 g4 g5 => by
          refine relayT (s := { s with heap := h1 }) ho1 ⟨exa.1, exa.2.1, exa.2.2⟩ rfl rw1 pz T2.dm (by rw [sz1]; exact g5) nd1 is1 ld1 g1 g2 g3 (by rw [ln]; exact g4) ?_
          intro h2 L2 es2 ep2 t3 sb2 R2 pm2
          exact wpAny_pure (hQ true h2 L2 es2 ep2 t3 (sb.trans sb2) R2 (fun z => absurd z hm) fun _ => pm2.trans pm)
        first
          | (refine wpAny_bind ?_; refine wp_if_pos (by simp [hf]) ?_)
          | (refine wp_if_pos (by simp [hf]) ?_; refine wpAny_bind ?_)
        rw [sl]
        rw [m2] at full
        rcases R.tab.mok with e | e | e
        · have e2 : L.length = 4 := by rw [e] at full rm; omega
          exact go 31 (by rw [e2, size_20]) (.inr (.inl rfl)) (by rw [e2, size_20]; decide) (by omega) (by rw [m2, e]; omega)
        · have e2 : L.length = 18 := by rw [e] at full rm; omega
          exact go 127 (by rw [e2, size_76]) (.inr (.inr rfl)) (by rw [e2, size_76]; decide) (by omega) (by rw [m2, e]; omega)
        · exfalso
          rw [e] at full
          omega
      · have room2 : L1.length * 5 < t2.mask * 3 := by
          have z := hf
          unfold SetTable.tooFull at z
          rw [decide_eq_true_eq, f2] at z
          rw [ln]
          omega
        first
          | refine wp_if_neg (by simp [hf]) ?_
          | (refine wpAny_bind ?_; refine wp_if_neg (by simp [hf]) ?_; refine wpAny_pure ?_)
        exact wpAny_pure (hQ true h1 L1 es1 (ep + 1) t2 sb ⟨⟨_, ho1, ⟨exa.1, exa.2.1, exa.2.2⟩, rfl⟩, rw1, T2, ld1, room2, is1, nd1⟩ (fun z => absurd z hm) fun _ => pm)
    have pl : ∀ b : Bool, TabOk (if b = true then t1 else { t1 with plain := false }) (L1.map fun p => tH P w p.2) ∧ (if b = true then t1 else { t1 with plain := false }).mask = t.mask ∧ (if b = true then t1 else { t1 with plain := false }).led = t.led ∧ (if b = true then t1 else { t1 with plain := false }).fill = L.length + 1 := fun b => by
      rw [List.length_map] at q9
      cases b with
      | true => exact ⟨q3, q4, q5, q9⟩
      | false => exact ⟨⟨q3.ris, q3.dm, q3.sz, q3.mok, q3.bd, q3.reach⟩, q4, q5, q9⟩
    cases hp : t1.plain with
    | true =>
      refine wpAny_bind (hashByT hx fun r => ?_)
      obtain ⟨a1, a2, a3, a4⟩ := pl r
      exact stp _ a1 a2 a3 a4
    | false =>
      refine wpAny_bind (wpAny_pure ?_)
      obtain ⟨a1, a2, a3, a4⟩ := pl true
      exact stp _ a1 a2 a3 a4
end
structure StT (P : Program) (w : World) (h : Heap) (a : Addr) (L : List (Value × List Key)) : Prop where
  ex : ∃ es ep t, TSet P w h a L es ep t
def kndT (P : Program) (w : World) : Knd P w (List Key) where
  is := isTp P w
  St := StT P w
  most := 75
  small := by decide
  isKeep := fun {h h' k v} hv kp => by
    obtain ⟨b, e, o, its, n, ho, r⟩ := hv
    exact ⟨b, e, o, its, n, kp b o ho, r⟩
  isSame := fun {h h' a L k v} hv st sb => by
    obtain ⟨es, ep, t, R⟩ := st.ex
    obtain ⟨o, ho, exa, hd⟩ := R.ob
    exact isTp_same hv ho hd sb
  tb := fun {h a L} st => by
    obtain ⟨es, ep, t, R⟩ := st.ex
    obtain ⟨o, ho, exa, hd⟩ := R.ob
    have R' : TSet P w ({ heap := h } : Shared).heap a L es ep t := R
    have sz := R'.size
    have rm := R'.room
    refine ⟨es, ep, t, ⟨o, ho, exa.1, hd⟩, R'.fits, ?_, R.tab.ris, R.led, by rw [R.rows, List.map_map]; rfl⟩
    unfold scanBound
    rcases R.tab.mok with e | e | e <;> omega
  nd := fun st => by
    obtain ⟨es, ep, t, R⟩ := st.ex
    exact R.nd
  new := fun {h a} ho => ⟨#[], 0, _, ⟨_, ho, ⟨rfl, rfl, rfl⟩, rfl⟩, rfl, ⟨List.Pairwise.nil, rfl, rfl, .inl rfl, fun x hx => (by cases hx), fun i h j hi => (by simp at hi)⟩, by
    show _ ∨ (!w.params.followText "set-order") = true
    cases w.params.followText "set-order"
    · exact .inr rfl
    · exact .inl rfl, by show 0 * 5 < 7 * 3; decide, fun p hp => (by cases hp), List.nodup_nil⟩
  keep := fun {h h' a L} st k => by
    obtain ⟨es, ep, t, R⟩ := st.ex
    obtain ⟨o, ho, r⟩ := R.ob
    refine ⟨es, ep, t, ⟨o, k a o ho (.inl rfl), r⟩, R.rows, R.tab, R.led, R.room, fun p hp => ?_, R.nd⟩
    obtain ⟨b, e, o', its, n, ho', r'⟩ := R.is p hp
    exact ⟨b, e, o', its, n, k b o' ho' (.inr ⟨p, hp, e⟩), r'⟩
  add := fun {A X s a L x k Q} un st hx few hQ => by
    obtain ⟨es, ep, t, R⟩ := st.ex
    obtain ⟨b, rfl, hb⟩ := hx
    unfold setAdd
    refine wpAny_holding (wpAny_bind (wpAny_pyHash_tuple un hb ?_))
    exact addT (s := { s with toks := s.toks + (k.length + 1) }) R hb un few fun r h' L' es' ep' t' sb R' c1 c2 => hQ r h' L' (s.toks + (k.length + 1)) (Nat.le_add_right _ _) sb ⟨es', ep', t', R'⟩ c1 c2
end DL

set_option Elab.async false
set_option linter.all false
set_option maxRecDepth 100000
set_option maxHeartbeats 1000000
/-! DSe: len(set(e)), sorted(set(e)), sorted(e) by data -/
namespace DL
open PySem PySem.Spec PyProof.Rows L2
open PySem.W (AllAlike Sortable dataLe dataLt EachIs)
/-- a datum that is a key -/
def isKeyD : PyData → Bool
  | .int _ => true
  | .str _ => true
  | _ => false
def keyD : PyData → Key
  | .int i => .inl i
  | .str x => .inr x
  | _ => .inl 0
/-- a datum that can be in a set here: a tuple of keys -/
def tupD : PyData → Bool
  | .tuple ds => ds.all isKeyD
  | _ => false
def keysD : PyData → List Key
  | .tuple ds => ds.map keyD
  | _ => []
theorem keyD_inj {a b : PyData} (ha : isKeyD a = true) (hb : isKeyD b = true) (h : keyD a = keyD b) : a = b := by
  cases a <;> cases ha <;> cases b <;> cases hb
  · rw [Sum.inl.inj h]
  · exact nomatch h
  · exact nomatch h
  · rw [Sum.inr.inj h]
theorem keysD_inj {a b : PyData} (ha : tupD a = true) (hb : tupD b = true) (h : keysD a = keysD b) : a = b := by
  have key : ∀ xs ys : List PyData, xs.all isKeyD = true → ys.all isKeyD = true → xs.map keyD = ys.map keyD → xs = ys := by
    intro xs
    induction xs with
    | nil => intro ys _ _ e; cases ys with | nil => rfl | cons y r => cases e
    | cons x r ih =>
      intro ys h1 h2 e
      cases ys with
      | nil => cases e
      | cons y r2 =>
        rw [List.all_cons, Bool.and_eq_true] at h1 h2
        rw [List.map_cons, List.map_cons, List.cons.injEq] at e
        rw [keyD_inj h1.1 h2.1 e.1, ih r2 h1.2 h2.2 e.2]
  match a, b, ha, hb, h with
  | .tuple xs, .tuple ys, ha, hb, h => rw [key xs ys ha hb h]
theorem DpAll.len {K : PySem.W.Frag} {H : Hp} : ∀ {xs : List V} {ds : List PyData}, DpAll K H xs ds → xs.length = ds.length
  | _, _, .nil => rfl
  | _, _, .cons _ r => by rw [List.length_cons, List.length_cons, DpAll.len r]
section
variable {X : Cx} {pins : List (Addr × Obj)} {σ : L2.St} {H : Hp} {s : Shared}
theorem dp_key {x : V} {d : PyData} {u : Value} (h : Dp X.K H x d) (hd : isKeyD d = true) (r : RelV x u) : keyIs (keyD d) u = true := by
  cases h with
  | int i => obtain ⟨t, rfl⟩ := r; exact keyIs_int i t
  | str z => obtain ⟨t, rfl⟩ := r; exact keyIs_str z t
  | _ => cases hd
theorem dp_keys : ∀ {xs : List V} {ds : List PyData} {us : List Value}, DpAll X.K H xs ds → ds.all isKeyD = true → Vals xs us → ItemsAre (mixKind X.prog X.w) (ds.map keyD) us
  | _, _, _, .nil, _, .nil => .nil
  | _, _, _, .cons h r, hd, .cons rv rr => by
    rw [List.all_cons, Bool.and_eq_true] at hd
    exact .cons (dp_key h hd.1 rv) (dp_keys r hd.2 rr)
theorem dp_tup (I : Inv X pins σ H s) {x : V} {d : PyData} {u : Value} (h : Dp X.K H x d) (hd : tupD d = true) (r : RelV x u) : isTp X.prog X.w s.heap (keysD d) u := by
  cases h with
  | @tup a xs ds h1 h2 =>
    obtain rfl : u = Value.ref a := r
    obtain ⟨its, rv, ⟨o, ho, hc, n, hd'⟩, _⟩ := I.tuple h1
    exact ⟨a, rfl, o, its.toArray, n, ho, hc, hd', by rw [List.toList_toArray]; exact dp_keys h2 hd rv⟩
  | _ => cases hd
end
/-- the items xs read as ds, all of which can be in one set -/
def SetD (K : PySem.W.Frag) (H : Hp) (xs : List V) (ds : List PyData) : Prop := DpAll K H xs ds ∧ ((∀ d ∈ ds, isKeyD d = true) ∧ ds.length ≤ 3900 ∨ (∀ d ∈ ds, tupD d = true) ∧ ds.length ≤ 70)
/-- ys are the items of xs, each kind once -/
structure Once (xs ys : List (V × PyData)) : Prop where
  sub : ∀ p ∈ ys, p ∈ xs
  all : ∀ p ∈ xs, p.2 ∈ ys.map (·.2)
  nd : (ys.map (·.2)).Nodup
theorem vals_zip : ∀ {xs : List V} {ds : List PyData} {us : List Value} {K : PySem.W.Frag} {H : Hp}, DpAll K H xs ds → Vals xs us → ∃ L : List (Value × (V × PyData)), L.map (·.1) = us ∧ L.map (·.2) = xs.zip ds ∧ ∀ p ∈ L, RelV p.2.1 p.1 ∧ Dp K H p.2.1 p.2.2
  | _, _, _, _, _, .nil, .nil => ⟨[], rfl, rfl, fun _ h => by cases h⟩
  | x :: xs, d :: ds, u :: us, _, _, .cons h r, .cons rv rr => by
    obtain ⟨L, e1, e2, e3⟩ := vals_zip r rr
    refine ⟨(u, (x, d)) :: L, by rw [List.map_cons, e1], by rw [List.map_cons, e2]; rfl, fun p hp => ?_⟩
    rcases List.mem_cons.mp hp with z | z
    · rw [z]; exact ⟨rv, h⟩
    · exact e3 p z
section
variable {X : Cx} {pins : List (Addr × Obj)} {σ : L2.St} {H : Hp} {s : Shared} {A : Around} {E : Value → Shared → Prop}
/-- what set(l) leaves -/
structure MadeSet (w : World) (s : Shared) (h' : Heap) (L0 : List (Value × (V × PyData))) (L : List (Value × (V × PyData))) : Prop where
  tb : Tb w h' s.heap.objs.size (L.map (·.1))
  ex : ∀ o, h'.get? s.heap.objs.size = some o → o.ExactSet
  sub : ∀ p ∈ L, p ∈ L0
  all : ∀ p ∈ L0, p.2.2 ∈ L.map (·.2.2)
  nd : (L.map (·.2.2)).Nodup
  kp : ∀ b o, s.heap.get? b = some o → h'.get? b = some o
theorem made_of {E0 : Type} (κ : Knd X.prog X.w E0) (kf : PyData → E0) (good : PyData → Bool) (inj : ∀ a b, good a = true → good b = true → kf a = kf b → a = b) (hex : ∀ {h a L}, κ.St h a L → ∀ o, h.get? a = some o → o.ExactSet)
    (iss : ∀ {x d u}, Dp X.K H x d → good d = true → RelV x u → κ.is s.heap (kf d) u) (I : Inv X pins σ H s) {l : Addr} {xs : List V} {ds : List PyData} {Q : Value → Shared → Prop} (hh : A.handled = none) (hu : A.units + 3 < cLine)
    (hl : SqL X.K H l xs) (hd : DpAll X.K H xs ds) (hg : ∀ d ∈ ds, good d = true) (few : ds.length + 1 < κ.most)
    (q : ∀ h' tk L0 L, L0.map (·.2) = xs.zip ds → (∀ p ∈ L0, RelV p.2.1 p.1 ∧ Dp X.K H p.2.1 p.2.2) → MadeSet X.w s h' L0 L → Q (.ref s.heap.objs.size) { s with heap := h', toks := tk }) :
    wpAny (model X.prog X.w) A (call (.type "set") [.ref l]) Q E s := by
  obtain ⟨its, rv, hT, _⟩ := I.list hl
  obtain ⟨L0, e1, e2, e3⟩ := vals_zip hd rv
  have hz : L0.length = ds.length := by
    have z := congrArg List.length e2
    rw [List.length_map, List.length_zip] at z
    have y := DpAll.len hd
    omega
  have g0 : ∀ p ∈ L0, good p.2.2 = true := fun p hp => by
    have z : p.2 ∈ xs.zip ds := by rw [← e2]; exact List.mem_map.mpr ⟨p, hp, rfl⟩
    exact hg _ (List.of_mem_zip z).2
  refine call_setof κ (L0.map fun p => (p.1, kf p.2.2)) hh hT.isList (by rw [List.map_map, ← e1]; simp [Function.comp_def]) (fun p hp => ?_) (by rw [List.length_map, hz]; exact few) (fun p hp b eb => ?_) hu fun h' tk L st g kp => ?_
  · obtain ⟨p0, h0, rfl⟩ := List.mem_map.mp hp
    exact iss (e3 p0 h0).2 (g0 p0 h0) (e3 p0 h0).1
  · obtain ⟨p0, h0, rfl⟩ := List.mem_map.mp hp
    obtain ⟨rp, dp⟩ := e3 p0 h0
    have eb : p0.1 = .ref b := eb
    rw [eb] at rp
    obtain ⟨as, rd⟩ := Dp.reads I _ _ _ dp rp
    generalize p0.2.2 = d0 at rd
    cases rd <;> exact ⟨_, by assumption⟩
  · have back : ∀ M : List (Value × E0), (∀ p ∈ M, p ∈ L0.map fun p => (p.1, kf p.2.2)) → ∃ M0 : List (Value × (V × PyData)), M = M0.map (fun p => (p.1, kf p.2.2)) ∧ ∀ p ∈ M0, p ∈ L0 := by
      intro M
      induction M with
      | nil => intro _; exact ⟨[], rfl, fun _ h => by cases h⟩
      | cons m r ih =>
        intro hm
        obtain ⟨p0, h0, e0⟩ := List.mem_map.mp (hm m (.head _))
        obtain ⟨M0, a1, a2⟩ := ih fun p hp => hm p (.tail _ hp)
        refine ⟨p0 :: M0, by rw [List.map_cons, ← a1, ← e0], fun p hp => ?_⟩
        rcases List.mem_cons.mp hp with z | z
        · rw [z]; exact h0
        · exact a2 p z
    obtain ⟨M0, b1, b2⟩ := back L fun p hp => List.mem_of_mem_take (g.sub p hp)
    refine q h' tk L0 M0 e2 e3 ⟨?_, hex st, b2, fun p hp => ?_, ?_, kp⟩
    · have z := κ.tb st
      rw [b1, List.map_map] at z
      exact z
    · have z := g.all (p.1, kf p.2.2) (by rw [List.take_of_length_le (Nat.le_refl _)]; exact List.mem_map.mpr ⟨p, hp, rfl⟩)
      rw [b1, List.map_map] at z
      obtain ⟨m, hm, em⟩ := List.mem_map.mp z
      refine List.mem_map.mpr ⟨m, hm, inj _ _ (g0 m (b2 m hm)) (g0 p hp) em⟩
    · have z := κ.nd st
      rw [b1, List.map_map] at z
      have z2 : ((M0.map (·.2.2)).map kf).Nodup := by rw [List.map_map]; exact z
      exact List.Pairwise.of_map kf (fun a b hne e => hne (congrArg kf e)) z2
theorem made_set (I : Inv X pins σ H s) {l : Addr} {xs : List V} {ds : List PyData} {Q : Value → Shared → Prop} (hh : A.handled = none) (hu : A.units + 3 < cLine) (hl : SqL X.K H l xs) (hd : SetD X.K H xs ds)
    (q : ∀ h' tk L0 L, L0.map (·.2) = xs.zip ds → (∀ p ∈ L0, RelV p.2.1 p.1 ∧ Dp X.K H p.2.1 p.2.2) → MadeSet X.w s h' L0 L → Q (.ref s.heap.objs.size) { s with heap := h', toks := tk }) :
    wpAny (model X.prog X.w) A (call (.type "set") [.ref l]) Q E s := by
  obtain ⟨hd, ⟨hk, few⟩ | ⟨hk, few⟩⟩ := hd
  · exact made_of (kndK X.prog X.w) keyD isKeyD (fun a b => keyD_inj) (fun {h a L} st o ho => by
      obtain ⟨o', es, ep, t, ob, exa, _⟩ := StK.ex st
      rw [ob] at ho
      rw [← Option.some.inj ho]
      exact exa) (fun h g r => dp_key h g r) I hh hu hl hd hk (by show _ < 4000; omega) q
  · exact made_of (kndT X.prog X.w) keysD tupD (fun a b => keysD_inj) (fun {h a L} st o ho => by
      obtain ⟨es, ep, t, R⟩ := StT.ex st
      obtain ⟨o', ob, exa, _⟩ := R.ob
      rw [ob] at ho
      rw [← Option.some.inj ho]
      exact exa) (fun h g r => dp_tup I h g r) I hh hu hl hd hk (by show _ < 75; omega) q
end
end DL

set_option Elab.async false
set_option linter.all false
set_option maxRecDepth 100000
set_option maxHeartbeats 1000000
/-! DSf: the readings of len(set(e)), sorted(set(e)), sorted(e) -/
namespace DL
open PySem PySem.Spec PyProof.Rows L2
open PySem.W (AllAlike Sortable dataLe dataLt EachIs)
/-- len(set(e)) -/
def tLenSet (K : PySem.W.Frag) (te : TE) : TE := fun σ H Q => te σ H fun x H1 => ∃ (l : Addr) (xs : List V) (ds : List PyData), x = .ref l ∧ SqL K H1 l xs ∧ SetD K H1 xs ds ∧
  ∀ n : Nat, (∃ es : List PyData, es.length = n ∧ es.Nodup ∧ (∀ d, d ∈ es ↔ d ∈ ds)) → Q (.int (n : Int)) H1
/-- sorted(set(e)) -/
def tSortSet (K : PySem.W.Frag) (te : TE) : TE := fun σ H Q => te σ H fun x H1 => ∃ (l : Addr) (xs : List V) (ds : List PyData), x = .ref l ∧ SqL K H1 l xs ∧ SetD K H1 xs ds ∧ AllAlike ds ∧ Sortable ds ∧
  ∀ (l' : Addr) (ys : List (V × PyData)), H1 l' = none → (∀ p ∈ ys, p ∈ xs.zip ds) → (∀ d ∈ ds, d ∈ ys.map (·.2)) → (ys.map (·.2)).Nodup → (ys.map (·.2)).Pairwise (fun a b => dataLt b a = false) → Q (.ref l') (upd H1 l' (.lst (ys.map (·.1))))
/-- sorted(e), e a list -/
def uSorted (K : PySem.W.Frag) : List V → Hp → VK → Prop := fun vs H Q => ∃ (l : Addr) (xs : List V) (ds : List PyData), vs = [.ref l] ∧ SqL K H l xs ∧ DpAll K H xs ds ∧ AllAlike ds ∧ Sortable ds ∧ (∀ d ∈ ds, d.depth ≤ 50) ∧
  ∀ l', H l' = none → Q (.ref l') (upd H l' (.lst (((xs.zip ds).mergeSort (dataLe false (·.2))).map (·.1))))
theorem mem_zip_snd {α β : Type} : ∀ {xs : List α} {ds : List β} {d : β}, xs.length = ds.length → d ∈ ds → ∃ x, (x, d) ∈ xs.zip ds
  | [], [], _, _, h => by cases h
  | x :: xs, e :: ds, d, hl, h => by
    rcases List.mem_cons.mp h with z | z
    · exact ⟨x, by rw [z]; exact .head _⟩
    · obtain ⟨y, hy⟩ := mem_zip_snd (xs := xs) (by simpa using hl) z
      exact ⟨y, .tail _ hy⟩
theorem depth_set {K : PySem.W.Frag} {H : Hp} {xs : List V} {ds : List PyData} (h : SetD K H xs ds) : ∀ d ∈ ds, d.depth ≤ 1 := by
  have k0 : ∀ d, isKeyD d = true → d.depth = 0 := fun d hd => by cases d <;> first | rfl | cases hd
  have kall : ∀ ds : List PyData, ds.all isKeyD = true → PyData.depthAll ds = 0 := by
    intro ds
    induction ds with
    | nil => intro _; rfl
    | cons d r ih =>
      intro h
      rw [List.all_cons, Bool.and_eq_true] at h
      rw [PyData.depthAll, ih h.2, k0 d h.1]
      rfl
  obtain ⟨_, ⟨hk, _⟩ | ⟨hk, _⟩⟩ := h
  · intro d hd
    rw [k0 d (hk d hd)]
    exact Nat.zero_le _
  · intro d hd
    have := hk d hd
    match d, this with
    | .tuple es, he =>
      rw [PyData.depth, kall es he]
      exact Nat.le_refl _
theorem reads_nil {K : PySem.W.Frag} {H : Hp} {xs : List V} {ds : List PyData} (h : SetD K H xs ds) {d : PyData} (hd : d ∈ ds) {hp : Heap} {v : Value} {as : List Addr} (r : Reads hp v d as) : as = [] := by
  have k0 : ∀ {d : PyData} {v : Value} {as : List Addr}, isKeyD d = true → Reads hp v d as → as = [] := fun {d v as} hk r => by
    cases r <;> first | rfl | cases hk
  have kall : ∀ {ds : List PyData} {vs : List Value} {as : List Addr}, ds.all isKeyD = true → ReadsAll hp vs ds as → as = [] := fun {ds} => by
    induction ds with
    | nil => intro vs as _ r; cases r; rfl
    | cons d ds ih =>
      intro vs as hk r
      rw [List.all_cons, Bool.and_eq_true] at hk
      cases r with
      | cons r1 r2 => rw [k0 hk.1 r1, ih hk.2 r2]; rfl
  obtain ⟨_, ⟨hk, _⟩ | ⟨hk, _⟩⟩ := h
  · exact k0 (hk d hd) r
  · have := hk d hd
    match d, this, r with
    | .tuple es, he, r =>
      cases r with
      | tuple _ _ _ r4 => exact kall he r4
theorem dataLe_trans {β : Type} (k : β → PyData) (a b c : β) (h1 : dataLe false k a b = true) (h2 : dataLe false k b c = true) : dataLe false k a c = true := (PySem.W.sortLe_total _ _ _).trans a b c h1 h2
theorem dataLe_total {β : Type} (k : β → PyData) (a b : β) : (dataLe false k a b || dataLe false k b a) = true := by
  rw [Bool.or_eq_true]
  exact (PySem.W.sortLe_total _ _ _).total a b
theorem eachis_map {α β γ : Type} {R : α → β → Prop} (f : γ → α) (g : γ → β) : ∀ l : List γ, (∀ c ∈ l, R (f c) (g c)) → EachIs R (l.map f) (l.map g)
  | [], _ => .nil
  | c :: r, h => .cons (h c (.head _)) (eachis_map f g r fun x hx => h x (.tail _ hx))
theorem eachis_vals {P : Value → (V × PyData) → Prop} (hP : ∀ u p, P u p → RelV p.1 u) : ∀ {us : List Value} {ps : List (V × PyData)}, EachIs P us ps → Vals (ps.map (·.1)) us
  | _, _, .nil => .nil
  | _, _, .cons h r => .cons (hP _ _ h) (eachis_vals hP r)
section
variable {X : Cx} {a : Expr} {ta : TE} {p p2 q pos : Pos} {K : PySem.W.Frag}
theorem pe_lenSet (hK : X.K = K) (hc : X.calm = true) (hu : X.A.units + 64 < cLine) (hg : Gl X "len") (hm : X.mg "len" = none) (hg2 : Gl X "set") (hm2 : X.mg "set" = none) (ha : PE X a ta)
    (na : starEach [a] X.env = (false, eval a X.env) :: starEach [] X.env := by rfl) : PE X (.Call (.Name "len" p) [.Call (.Name "set" p2) [a] [] q] [] pos) (tLenSet K ta) := by
  subst hK
  refine ⟨fun pins s σ H Q I h => ?_⟩
  refine Call_ (ld_blt I hg hm boot_len ?_)
  refine PyProof.Rows.callWith_builtin1 (PyProof.Rows.args_cons ?_ rfl) rfl rfl
  refine Call_ (ld_blt I hg2 hm2 boot_set ?_)
  refine PyProof.Rows.callWith_type1 (PyProof.Rows.args_cons (thn (ha.run pins s σ H _ I h) fun v s1 ⟨x, H1, I1, r1, q1⟩ => PyProof.Rows.args_nil ?_) na) na rfl
  obtain ⟨l, xs, ds, rfl, hl, hd, q1⟩ := q1
  cases r1
  refine made_set I1 (I1.ok.hd hc) (by omega) hl hd fun h' tk L0 L e1 e2 M => ?_
  refine PyProof.Rows.args_nil ?_
  have I2 : Inv X pins σ H1 { s1 with heap := h', toks := tk } := I1.kept fun b o e => M.kp b o e
  have q2 := q1 L.length ⟨L.map (·.2.2), by rw [List.length_map], M.nd, fun d => ⟨fun hd' => ?_, fun hd' => ?_⟩⟩
  · refine call_lenof (s := { s1 with heap := h', toks := tk }) M.tb M.ex ⟨.int L.length, H1, I2.tok _, ⟨_, by rw [List.length_map]⟩, q2⟩
  · obtain ⟨m, hm', rfl⟩ := List.mem_map.mp hd'
    have z : m.2 ∈ xs.zip ds := by rw [← e1]; exact List.mem_map.mpr ⟨m, M.sub m hm', rfl⟩
    exact (List.of_mem_zip z).2
  · obtain ⟨x, hx⟩ := mem_zip_snd (DpAll.len hd.1) hd'
    rw [← e1] at hx
    obtain ⟨m, hm', em⟩ := List.mem_map.mp hx
    have z := M.all m hm'
    rw [em] at z
    exact z
theorem pe_sortSet (hK : X.K = K) (hc : X.calm = true) (hu : X.A.units + 64 < cLine) (hg : Gl X "sorted") (hm : X.mg "sorted" = none) (hg2 : Gl X "set") (hm2 : X.mg "set" = none) (ha : PE X a ta)
    (na : starEach [a] X.env = (false, eval a X.env) :: starEach [] X.env := by rfl) : PE X (.Call (.Name "sorted" p) [.Call (.Name "set" p2) [a] [] q] [] pos) (tSortSet K ta) := by
  subst hK
  refine ⟨fun pins s σ H Q I h => ?_⟩
  refine Call_ (ld_blt I hg hm boot_sorted ?_)
  refine PyProof.Rows.callWith_builtin1 (PyProof.Rows.args_cons ?_ rfl) rfl rfl
  refine Call_ (ld_blt I hg2 hm2 boot_set ?_)
  refine PyProof.Rows.callWith_type1 (PyProof.Rows.args_cons (thn (ha.run pins s σ H _ I h) fun v s1 ⟨x, H1, I1, r1, q1⟩ => PyProof.Rows.args_nil ?_) na) na rfl
  obtain ⟨l, xs, ds, rfl, hl, hd, hal, hso, q1⟩ := q1
  cases r1
  refine made_set I1 (I1.ok.hd hc) (by omega) hl hd fun h' tk L0 L e1 e2 M => ?_
  refine PyProof.Rows.args_nil ?_
  have I2 : Inv X pins σ H1 { s1 with heap := h', toks := tk } := I1.kept fun b o e => M.kp b o e
  obtain ⟨es, ep, t, hat, hf, hb, hr, hle, hv⟩ := M.tb.ex
  refine Calls.call_function_entry kind_sorted plain_sorted entry_sorted (args_sorted1 _) ?_
  unfold Builtin.«sorted»
  refine wpAny_bind (m := checkCount "sorted" 1 1 _) (wpAny_pure ?_)
  refine wpAny_bind (collect_set (A := X.A.in1) (s := { s1 with heap := h', toks := tk }) (I1.ok.hd hc) hat hf hb hr hle fun s2 vs k1 hz g1 o1 pm => ?_)
  rw [hv] at pm
  obtain ⟨N, n1, n2⟩ := perm_back (fun p : Value × (V × PyData) => p.1) pm L rfl
  subst n1
  have inL : ∀ m ∈ N, m ∈ L := fun m hm' => n2.mem_iff.mp hm'
  have dsm : ∀ m ∈ N, m.2.2 ∈ ds := fun m hm' => by
    have z : m.2 ∈ xs.zip ds := by rw [← e1]; exact List.mem_map.mpr ⟨m, M.sub m (inL m hm'), rfl⟩
    exact (List.of_mem_zip z).2
  have nl : N.length ≤ 4096 := by
    rw [n2.length_eq]
    have z := congrArg List.length hv
    rw [List.length_map, List.length_map, Array.length_toList] at z
    rw [← z]
    exact Nat.le_of_lt hb
  refine wpAny_bind (wpAny_newList ?_ (by rw [List.length_map, sizeLine_eq]; omega))
  have hoL : (s2.heap.push (seqObj "list" (N.map (·.1)).toArray 0)).get? s2.heap.objs.size = some (seqObj "list" (N.map (·.1)).toArray 0) := Heap.get?_push_size _ rfl
  have rd0 : ∀ m ∈ N, ∃ as, Reads s1.heap m.1 m.2.2 as := fun m hm' => by
    obtain ⟨ra, rb⟩ := e2 m (M.sub m (inL m hm'))
    exact Dp.reads I1 _ _ _ rb ra
  refine wpAny_bind (wpAny_holding (PySem.W.list_sort_data (s := { s2 with heap := s2.heap.push (seqObj "list" (N.map (·.1)).toArray 0) }) (bs := N) (enc := fun m => m.2.2) (R := fun u m => u = m.1 ∧ m ∈ N) hoL ?_ ?_ ?_ ?_ ?_ ?_ ?_))
  · have z := eachis_map (R := fun (u : Value) (m : Value × (V × PyData)) => u = m.1 ∧ m ∈ N) (·.1) id N fun c hc' => ⟨rfl, hc'⟩
    rwa [List.map_id] at z
  · have z := eachis_map (R := fun (u : Value) (m : Value × (V × PyData)) => ∃ as, Reads (s2.heap.push (seqObj "list" (N.map (·.1)).toArray 0)) u m.2.2 as ∧ s2.heap.objs.size ∉ as) (·.1) id N fun c hc' => by
      obtain ⟨as, ra⟩ := rd0 c hc'
      have rb := PyProof.Rows.Reads.keeps (h' := s2.heap.push (seqObj "list" (N.map (·.1)).toArray 0)) (fun b o e => Heap.get?_push_of_some _ (k1 b o (M.kp b o e))) ra
      rw [reads_nil hd (dsm c hc') ra] at rb
      exact ⟨_, rb, fun hin => by cases hin⟩
    rwa [List.map_id] at z
  · intro d hd1 d' hd2
    obtain ⟨m, hm1, rfl⟩ := List.mem_map.mp hd1
    obtain ⟨m', hm2', rfl⟩ := List.mem_map.mp hd2
    exact hal _ (dsm m hm1) _ (dsm m' hm2')
  · rcases hso with z | z
    · refine .inl fun d hd1 => ?_
      obtain ⟨m, hm1, rfl⟩ := List.mem_map.mp hd1
      exact z _ (dsm m hm1)
    · refine .inr fun d hd1 => ?_
      obtain ⟨m, hm1, rfl⟩ := List.mem_map.mp hd1
      exact z _ (dsm m hm1)
  · rw [sizeLine_eq]; omega
  · intro m hm'
    have z := depth_set hd _ (dsm m hm')
    show X.A.units + 1 + 1 + _ < _
    omega
  · intro out ol eo
    refine wpAny_pure ⟨_, rfl, ?_⟩
    have hp0 : s1.heap.objs.size < s2.heap.objs.size := by
      obtain ⟨o, ho, _⟩ := hat
      exact Nat.lt_of_lt_of_le (Heap.lt_size ho) hz
    have hn : H1 s2.heap.objs.size = none := I1.hok.fresh (Nat.le_of_lt hp0)
    obtain ⟨c, hcc⟩ := sortedHeap_at (vs := N.map (·.1)) (out := out.toArray) hoL
    have sN : ∀ m ∈ N.mergeSort (dataLe false fun m => m.2.2), m ∈ N := fun m hm' => (List.mergeSort_perm _ _).mem_iff.mp hm'
    have hv2 : Vals (((N.mergeSort (dataLe false fun m => m.2.2)).map (·.2)).map (·.1)) out := by
      rw [List.map_map]
      have key : ∀ {us : List Value} {ms : List (Value × (V × PyData))}, EachIs (fun u m => u = m.1 ∧ m ∈ N) us ms → Vals (ms.map ((·.1) ∘ (·.2))) us := by
        intro us ms e
        induction e with
        | nil => exact .nil
        | cons h _ ih =>
          refine .cons ?_ ih
          rw [h.1]
          exact (e2 _ (M.sub _ (inL _ h.2))).1
      exact key eo
    have kk : ∀ b o, s1.heap.get? b = some o → (sortedHeap (s2.heap.push (seqObj "list" (N.map (·.1)).toArray 0)) s2.heap.objs.size (N.map (·.1)) out.toArray).get? b = some o := fun b o e => by
      have z := k1 b o (M.kp b o e)
      have lt := Heap.lt_size z
      rw [sortedHeap_old (Nat.ne_of_lt lt) (by rw [Heap.size_push]; exact Nat.lt_succ_of_lt lt)]
      exact Heap.get?_push_of_some _ z
    have len2 : (((N.mergeSort (dataLe false fun m => m.2.2)).map (·.2)).map (·.1)).length ≤ sizeLine := by
      rw [List.length_map, List.length_map, (List.mergeSort_perm _ _).length_eq, sizeLine_eq]
      omega
    have J : Inv X pins σ (upd H1 s2.heap.objs.size (.lst (((N.mergeSort (dataLe false fun m => m.2.2)).map (·.2)).map (·.1)))) { s1 with heap := sortedHeap (s2.heap.push (seqObj "list" (N.map (·.1)).toArray 0)) s2.heap.objs.size (N.map (·.1)) out.toArray, gens := s2.gens, drawn := s2.drawn, toks := s2.toks } :=
      I1.call (ch := []) (Un.laid kk (Nat.le_of_lt hp0) hn) (I1.hok.laid kk (Nat.le_of_lt hp0) ⟨len2, out, c, hv2, hcc⟩) (by rw [g1]; exact I1.bare) (fun _ z => nomatch z)
    have es2 : s2.os = s1.os := o1
    dsimp only
    rw [es2]
    refine ⟨.ref _, _, J, rfl, q1 _ _ hn (fun p hp => ?_) (fun d hd1 => ?_) ?_ ?_⟩
    · obtain ⟨m, hm1, rfl⟩ := List.mem_map.mp hp
      rw [← e1]
      exact List.mem_map.mpr ⟨m, M.sub m (inL m (sN m hm1)), rfl⟩
    · obtain ⟨x, hx⟩ := mem_zip_snd (DpAll.len hd.1) hd1
      rw [← e1] at hx
      obtain ⟨m, hm', em⟩ := List.mem_map.mp hx
      have z := M.all m hm'
      rw [em] at z
      obtain ⟨m2, hm2', em2⟩ := List.mem_map.mp z
      rw [List.map_map]
      exact List.mem_map.mpr ⟨m2, (List.mergeSort_perm _ _).mem_iff.mpr (n2.mem_iff.mpr hm2'), em2⟩
    · rw [List.map_map]
      exact ((((List.mergeSort_perm _ _).trans n2).map _).nodup_iff).mpr M.nd
    · rw [List.map_map, List.pairwise_map]
      refine List.Pairwise.imp ?_ (List.pairwise_mergeSort (le := dataLe false fun m : Value × (V × PyData) => m.2.2) (dataLe_trans _) (dataLe_total _) N)
      intro m m' hle'
      have z : (!dataLt m'.2.2 m.2.2) = true := hle'
      simpa using z
theorem cu_sorted (hK : X.K = K) (hu : X.A.units + 64 < cLine) : CallR X (.builtin "sorted") (uSorted K) := by
  subst hK
  intro pins s σ H vs us Q I r h
  obtain ⟨l, xs, ds, rfl, hl, hd, hal, hso, hdp, q⟩ := h
  rw [Vals.ref1 r]
  obtain ⟨its, rv, hT, hz⟩ := I.list hl
  obtain ⟨L0, e1, e2, e3⟩ := vals_zip hd rv
  have lz : (xs.zip ds).length = its.length := by rw [← e2, ← e1, List.length_map, List.length_map]
  have lx : its.length = xs.length := rv.length.symm
  have inD : ∀ p ∈ xs.zip ds, p.2 ∈ ds := fun p hp => (List.of_mem_zip hp).2
  refine PySem.W.sorted_data (bs := xs.zip ds) (enc := (·.2)) (R := fun u p => RelV p.1 u) hT.isList ?_ ?_ ?_ ?_ ?_ ?_ fun out ol eo => ?_
  · rw [← e1, ← e2]
    exact eachis_map (R := fun (u : Value) (p : V × PyData) => RelV p.1 u) (·.1) (·.2) L0 fun c hc => (e3 c hc).1
  · rw [← e1, ← e2]
    exact eachis_map (R := fun (u : Value) (p : V × PyData) => ∃ as, Reads s.heap u p.2 as) (·.1) (·.2) L0 fun c hc => Dp.reads I _ _ _ (e3 c hc).2 (e3 c hc).1
  · intro d hd1 d' hd2
    obtain ⟨m, hm1, rfl⟩ := List.mem_map.mp hd1
    obtain ⟨m', hm2, rfl⟩ := List.mem_map.mp hd2
    exact hal _ (inD m hm1) _ (inD m' hm2)
  · rcases hso with z | z
    · refine .inl fun d hd1 => ?_
      obtain ⟨m, hm1, rfl⟩ := List.mem_map.mp hd1
      exact z _ (inD m hm1)
    · refine .inr fun d hd1 => ?_
      obtain ⟨m, hm1, rfl⟩ := List.mem_map.mp hd1
      exact z _ (inD m hm1)
  · rw [lz, lx]; exact hz
  · intro m hm
    have z := hdp _ (inD m hm)
    omega
  · obtain ⟨ep, he'⟩ := PyProof.Rows.sortedAll_at s.heap its out.toArray
    have len2 : (((xs.zip ds).mergeSort (dataLe false (·.2))).map (·.1)).length ≤ sizeLine := by
      rw [List.length_map, (List.mergeSort_perm _ _).length_eq, lz, lx]
      exact hz
    exact ⟨.ref _, upd H (s.heap.objs.size + 1) (.lst (((xs.zip ds).mergeSort (dataLe false (·.2))).map (·.1))), I.laid (t' := s.toks) (fun _ _ => PyProof.Rows.sortedAll_old) (Nat.le_succ _) ⟨len2, out, ep, eachis_vals (fun _ _ h => h) eo, he'⟩, rfl, q _ (I.hok.fresh (Nat.le_succ _))⟩
end
end DL

set_option Elab.async false
set_option linter.all false
set_option maxRecDepth 100000
set_option maxHeartbeats 1000000
/-! DSg: sets and sorting by data -/
namespace DL
open PySem PySem.Spec PyProof.Rows L2
open PySem.W (AllAlike Sortable dataLe dataLt EachIs)
open Evl (Ex)
/-- each once -/
def ded {β : Type} [DecidableEq β] : List β → List β
  | [] => []
  | x :: r => if x ∈ r then ded r else x :: ded r
section
variable {β : Type} [DecidableEq β]
theorem mem_ded {x : β} : ∀ {l : List β}, x ∈ ded l ↔ x ∈ l
  | [] => Iff.rfl
  | y :: r => by
    have ih := mem_ded (x := x) (l := r)
    unfold ded
    split
    · rename_i h
      rw [ih, List.mem_cons]
      exact ⟨.inr, fun z => z.elim (fun e => e ▸ h) id⟩
    · rw [List.mem_cons, List.mem_cons, ih]
theorem nodup_ded : ∀ l : List β, (ded l).Nodup
  | [] => List.nodup_nil
  | y :: r => by
    unfold ded
    split
    · exact nodup_ded r
    · rename_i h
      exact List.nodup_cons.mpr ⟨fun z => h (mem_ded.mp z), nodup_ded r⟩
theorem ded_nodup : ∀ {l : List β}, l.Nodup → ded l = l
  | [], _ => rfl
  | y :: r, h => by
    obtain ⟨h1, h2⟩ := List.nodup_cons.mp h
    unfold ded
    rw [if_neg h1, ded_nodup h2]
theorem ded_len : ∀ l : List β, (ded l).length ≤ l.length
  | [] => Nat.le_refl _
  | y :: r => by
    have ih := ded_len r
    unfold ded
    split
    · rw [List.length_cons]; omega
    · rw [List.length_cons, List.length_cons]; omega
theorem ded_all {l : List β} : (ded l).length = l.length ↔ l.Nodup := by
  constructor
  · intro h
    induction l with
    | nil => exact List.nodup_nil
    | cons y r ih =>
      unfold ded at h
      split at h
      · have := ded_len r
        rw [List.length_cons] at h
        omega
      · rename_i hy
        rw [List.length_cons, List.length_cons] at h
        exact List.nodup_cons.mpr ⟨hy, ih (by omega)⟩
  · intro h; rw [ded_nodup h]
end
/-- a rising row of the same things is the same row -/
theorem sort_one {α : Type} {lt : α → α → Prop} : ∀ {l m : List α}, l.Perm m → l.Pairwise (fun a b => ¬ lt b a) → m.Pairwise lt → l = m
  | [], [], _, _, _ => rfl
  | [], y :: m, p, _, _ => absurd p.length_eq (by simp)
  | x :: l, [], p, _, _ => absurd p.length_eq (by simp)
  | x :: l, y :: m, p, h1, h2 => by
    obtain ⟨a1, a2⟩ := List.pairwise_cons.mp h1
    obtain ⟨b1, b2⟩ := List.pairwise_cons.mp h2
    have e : x = y := Classical.byContradiction fun ne => by
      have hx : x ∈ m := by
        rcases List.mem_cons.mp (p.mem_iff.mp (.head _)) with z | z
        · exact absurd z ne
        · exact z
      have hy : y ∈ l := by
        rcases List.mem_cons.mp (p.mem_iff.mpr (.head _)) with z | z
        · exact absurd z.symm ne
        · exact z
      exact a1 y hy (b1 x hx)
    subst e
    rw [sort_one (p.cons_inv) a2 b2]
/-- things whose data can be in one set -/
structure SetE {β : Type} (enc : β → Dat) (bs : List β) : Prop where
  pl : ∀ b ∈ bs, plainD (enc b) = true
  kd : (∀ b ∈ bs, isKeyD (toPy (enc b)) = true) ∧ bs.length ≤ 3900 ∨ (∀ b ∈ bs, tupD (toPy (enc b)) = true) ∧ bs.length ≤ 70
  inj : ∀ a ∈ bs, ∀ b ∈ bs, toPy (enc a) = toPy (enc b) → a = b
theorem plainDs_map {β : Type} {enc : β → Dat} : ∀ {bs : List β}, (∀ b ∈ bs, plainD (enc b) = true) → plainDs (bs.map enc) = true
  | [], _ => rfl
  | b :: r, h => by
    show (plainD (enc b) && plainDs (r.map enc)) = true
    rw [h b (.head _), plainDs_map fun x hx => h x (.tail _ hx)]
    rfl
theorem setE_D {β : Type} {enc : β → Dat} {bs : List β} {K : PySem.W.Frag} {H : Hp} {xs : List V} (h : SetE enc bs) (r : DRs K H xs (bs.map enc)) : SetD K H xs (bs.map fun b => toPy (enc b)) := by
  have e : toPys (bs.map enc) = bs.map fun b => toPy (enc b) := by rw [toPys_map, List.map_map]; rfl
  refine ⟨by rw [← e]; exact r.dp (plainDs_map h.pl), ?_⟩
  rcases h.kd with ⟨z, l⟩ | ⟨z, l⟩
  · exact .inl ⟨fun d hd => by obtain ⟨b, hb, rfl⟩ := List.mem_map.mp hd; exact z b hb, by rw [List.length_map]; exact l⟩
  · exact .inr ⟨fun d hd => by obtain ⟨b, hb, rfl⟩ := List.mem_map.mp hd; exact z b hb, by rw [List.length_map]; exact l⟩
theorem zip_map {β : Type} (enc : β → Dat) : ∀ L : List (V × β), (L.map (·.1)).zip ((L.map (·.2)).map fun b => toPy (enc b)) = L.map fun p => (p.1, toPy (enc p.2))
  | [] => rfl
  | p :: r => by rw [List.map_cons, List.map_cons, List.map_cons, List.map_cons, List.zip_cons_cons, zip_map enc r]
section
variable {K : PySem.W.Frag} {ρ : List Sl} {te : TE} {β : Type}
theorem s_lenSet [DecidableEq β] {enc : β → Dat} {bs : List β} (h : Sem K te ρ (.lst (bs.map enc))) (hE : SetE enc bs) : Sem K (tLenSet K te) ρ (.int ((ded bs).length : Nat)) := fun G0 B0 σ G H S Q q =>
  h _ _ _ _ _ S _ fun x G1 H1 g1 rx => by
    cases rx with
    | @lst a xs _ h1 r1 =>
      refine ⟨a, xs, _, rfl, .inl (.inl (g1.s _ _ h1)), setE_D hE (r1.mono g1.s), fun n ⟨es, e1, e2, e3⟩ => ?_⟩
      have p : es.Perm ((ded bs).map fun b => toPy (enc b)) := by
        refine (List.perm_ext_iff_of_nodup e2 ?_).mpr fun d => ?_
        · refine List.pairwise_map.mpr (List.Pairwise.imp_of_mem (fun {a b} ha hb ne e => ?_) (nodup_ded bs))
          exact ne (hE.inj a (mem_ded.mp ha) b (mem_ded.mp hb) e)
        · rw [e3 d, List.mem_map, List.mem_map]
          constructor
          · rintro ⟨b, hb, e⟩; exact ⟨b, mem_ded.mpr hb, e⟩
          · rintro ⟨b, hb, e⟩; exact ⟨b, mem_ded.mp hb, e⟩
      have z := p.length_eq
      rw [e1, List.length_map] at z
      rw [z]
      exact q _ _ _ g1 (.int _)
theorem drs_zip {G : Hp} {enc : β → Dat} : ∀ {xs : List V} {bs : List β}, DRs K G xs (bs.map enc) → ∃ L : List (V × β), L.map (·.1) = xs ∧ L.map (·.2) = bs ∧ ∀ p ∈ L, DR K G p.1 (enc p.2)
  | [], [], _ => ⟨[], rfl, rfl, fun _ h => by cases h⟩
  | x :: xs, b :: bs, .cons h r => by
    obtain ⟨L, e1, e2, e3⟩ := drs_zip r
    refine ⟨(x, b) :: L, by rw [List.map_cons, e1], by rw [List.map_cons, e2], fun p hp => ?_⟩
    rcases List.mem_cons.mp hp with z | z
    · rw [z]; exact h
    · exact e3 p z
theorem drs_of {G : Hp} {enc : β → Dat} : ∀ {L : List (V × β)}, (∀ p ∈ L, DR K G p.1 (enc p.2)) → DRs K G (L.map (·.1)) ((L.map (·.2)).map enc)
  | [], _ => .nil
  | p :: r, h => .cons (h p (.head _)) (drs_of fun x hx => h x (.tail _ hx))
theorem sn_sortSet {enc : β → Dat} {bs out : List β} (h : Sem K te ρ (.lst (bs.map enc))) (hE : SetE enc bs) (ha : ∀ a ∈ bs, ∀ b ∈ bs, PySem.W.alike (toPy (enc a)) (toPy (enc b)) = true) (hs : Sortable (bs.map fun b => toPy (enc b)))
    (h1 : out.Nodup) (h2 : ∀ b, b ∈ out ↔ b ∈ bs) (h3 : out.Pairwise fun a b => dataLt (toPy (enc a)) (toPy (enc b)) = true) : SemN K (tSortSet K te) ρ (out.map enc) := fun G0 B0 σ G H S Q q =>
  h _ _ _ _ _ S _ fun x G1 H1 g1 rx => by
    cases rx with
    | @lst a xs _ a1 r1 =>
      obtain ⟨L, l1, l2, l3⟩ := drs_zip r1
      subst l1; subst l2
      refine ⟨a, _, _, rfl, .inl (.inl (g1.s _ _ a1)), setE_D hE (r1.mono g1.s), fun d hd d' hd' => ?_, hs, fun l' ys hl' y1 y2 y3 y4 => ?_⟩
      · obtain ⟨b, hb, rfl⟩ := List.mem_map.mp hd
        obtain ⟨b', hb', rfl⟩ := List.mem_map.mp hd'
        exact ha b hb b' hb'
      · have ez := zip_map enc L
        have ey : ys.map (·.2) = out.map fun b => toPy (enc b) := by
          refine sort_one (lt := fun a b => dataLt a b = true) ((List.perm_ext_iff_of_nodup y3 ?_).mpr fun d => ?_) (y4.imp fun z y => by rw [z] at y; cases y) (List.pairwise_map.mpr h3)
          · exact List.pairwise_map.mpr (List.Pairwise.imp_of_mem (fun {a b} ha' hb' ne e => ne (hE.inj a ((h2 a).mp ha') b ((h2 b).mp hb') e)) h1)
          · constructor
            · intro hd
              obtain ⟨p, hp, rfl⟩ := List.mem_map.mp hd
              have z := y1 p hp
              rw [ez] at z
              obtain ⟨m, hm, em⟩ := List.mem_map.mp z
              rw [← em]
              exact List.mem_map.mpr ⟨m.2, (h2 _).mpr (List.mem_map.mpr ⟨m, hm, rfl⟩), rfl⟩
            · intro hd
              obtain ⟨b, hb, rfl⟩ := List.mem_map.mp hd
              exact y2 _ (List.mem_map.mpr ⟨b, (h2 b).mp hb, rfl⟩)
        have key : ∀ (ys : List (V × PyData)) (out : List β), (∀ p ∈ ys, p ∈ L.map fun p => (p.1, toPy (enc p.2))) → (∀ b ∈ out, b ∈ L.map (·.2)) → ys.map (·.2) = out.map (fun b => toPy (enc b)) → DRs K G1 (ys.map (·.1)) (out.map enc) := by
          intro ys
          induction ys with
          | nil => intro out _ _ e; cases out with | nil => exact .nil | cons b r => cases e
          | cons p r ih =>
            intro out hy ho e
            cases out with
            | nil => cases e
            | cons b rb =>
              rw [List.map_cons, List.map_cons, List.cons.injEq] at e
              obtain ⟨m, hm, em⟩ := List.mem_map.mp (hy p (.head _))
              have eb : m.2 = b := hE.inj _ (List.mem_map.mpr ⟨m, hm, rfl⟩) _ (ho b (.head _)) (by rw [← e.1, ← em])
              have ep : m.1 = p.1 := by rw [← em]
              refine .cons ?_ (ih rb (fun x hx => hy x (.tail _ hx)) (fun x hx => ho x (.tail _ hx)) e.2)
              show DR K G1 p.1 (enc b)
              rw [← ep, ← eb]
              exact l3 m hm
        rw [ez] at y1
        have rr := key ys out y1 (fun b hb => (h2 b).mp hb) ey
        have gn := Grow.newM (o := .lst (ys.map (·.1))) g1.s hl'
        exact q l' _ G1 _ (g1.trans gn) (Evl.fresh_back g1.h hl') (Evl.fresh_back g1.s hl') upd_same rr
theorem sn_sorted {enc : β → Dat} {bs : List β} {u : TA} (h : SemA K u ρ [.lst (bs.map enc)]) (hp : ∀ b ∈ bs, plainD (enc b) = true) (ha : ∀ a ∈ bs, ∀ b ∈ bs, PySem.W.alike (toPy (enc a)) (toPy (enc b)) = true) (hs : Sortable (bs.map fun b => toPy (enc b)))
    (hd : ∀ b ∈ bs, (toPy (enc b)).depth ≤ 50) : SemN K (tCB (uSorted K) u) ρ ((bs.mergeSort (dataLe false fun b => toPy (enc b))).map enc) := fun G0 B0 σ G H S Q q =>
  h _ _ _ _ _ S _ fun vs G1 H1 g1 rvs => by
    cases rvs with
    | cons rx rn =>
    cases rn
    cases rx with
    | @lst a xs _ a1 r1 =>
      obtain ⟨L, l1, l2, l3⟩ := drs_zip r1
      subst l1; subst l2
      have e : toPys ((L.map (·.2)).map enc) = (L.map (·.2)).map fun b => toPy (enc b) := by rw [toPys_map, List.map_map]; rfl
      refine ⟨a, _, (L.map (·.2)).map fun b => toPy (enc b), rfl, .inl (.inl (g1.s _ _ a1)), by rw [← e]; exact (r1.mono g1.s).dp (plainDs_map hp), fun d hd d' hd' => ?_, hs, fun d hd' => ?_, fun l' hl' => ?_⟩
      · obtain ⟨b, hb, rfl⟩ := List.mem_map.mp hd
        obtain ⟨b', hb', rfl⟩ := List.mem_map.mp hd'
        exact ha b hb b' hb'
      · obtain ⟨b, hb, rfl⟩ := List.mem_map.mp hd'
        exact hd b hb
      · have ez := zip_map enc L
        have e1 : ((L.map (·.1)).zip ((L.map (·.2)).map fun b => toPy (enc b))).mergeSort (dataLe false (·.2)) = (L.mergeSort (dataLe false fun p : V × β => toPy (enc p.2))).map fun p => (p.1, toPy (enc p.2)) := by
          rw [ez]
          exact (List.map_mergeSort (r := dataLe false fun p : V × β => toPy (enc p.2)) (s := dataLe false fun p : V × PyData => p.2) (f := fun p : V × β => (p.1, toPy (enc p.2))) (l := L) fun a _ b _ => rfl).symm
        have e2 : (L.map (·.2)).mergeSort (dataLe false fun b => toPy (enc b)) = (L.mergeSort (dataLe false fun p : V × β => toPy (enc p.2))).map (·.2) := (List.map_mergeSort (r := dataLe false fun p : V × β => toPy (enc p.2)) (s := dataLe false fun b : β => toPy (enc b)) (f := fun p : V × β => p.2) (l := L) fun a _ b _ => rfl).symm
        rw [e1, List.map_map]
        have rr : DRs K G1 ((L.mergeSort (dataLe false fun p : V × β => toPy (enc p.2))).map (·.1)) (((L.map (·.2)).mergeSort (dataLe false fun b => toPy (enc b))).map enc) := by
          rw [e2]
          exact drs_of fun p hp => l3 p ((List.mergeSort_perm _ _).mem_iff.mp hp)
        have gn := Grow.newM (o := .lst ((L.mergeSort (dataLe false fun p : V × β => toPy (enc p.2))).map (·.1))) g1.s hl'
        exact q l' _ G1 _ (g1.trans gn) (Evl.fresh_back g1.h hl') (Evl.fresh_back g1.s hl') upd_same rr
theorem cs_sum {ns : List Int} : CallS K (rSum K) [.lst (ns.map .int)] (.int ns.sum) := fun xs G H e r Q q => by
  cases r with
  | cons h r =>
    cases r
    cases h with
    | lst h1 r1 =>
      have := r1.ints
      subst this
      exact ⟨_, ns, rfl, .inl (.inl (e _ _ h1)), q _ _ _ (Grow.refl e) (.int _)⟩
end
theorem cu_sum {X : Cx} {K : PySem.W.Frag} (hK : X.K = K) (hc : X.calm = true) : CallR X (.builtin "sum") (rSum K) := by subst hK; exact cr_sum hc
/-! texts and pairs in order -/
theorem lt_txt (a b : List Nat) : dataLt (toPy (.txt a)) (toPy (.txt b)) = decide (a < b) := by
  show dataLt (.str _) (.str _) = _
  rw [PySem.W.dataLt_str, strL_cps, strL_cps]
end DL

set_option Elab.async false
set_option linter.all false
set_option maxRecDepth 100000
set_option maxHeartbeats 1000000
/-! DLk: comprehensions whose target is any -/
namespace DL
open PySem PySem.Spec PyProof.Rows L2
open Evl (Ex fresh_back)
/-- a target sets no other slots than vs -/
def SemGv (K : PySem.W.Frag) (g : TG) (vs : List Nat) (d : Dat) (ρ ρ' : List Sl) : Prop :=
  ∀ G0 B0 σ G H v, Sat K G0 B0 ρ σ G H → DR K G v d → ∀ Q : L2.St → Hp → Prop, (∀ σ', Sat K G0 B0 ρ' σ' G H → wipe σ' vs = wipe σ vs → Q σ' H) → g v σ H Q
def SemGvs (K : PySem.W.Frag) (g : TGs) (vs : List Nat) (ds : List Dat) (ρ ρ' : List Sl) : Prop :=
  ∀ G0 B0 σ G H ws, Sat K G0 B0 ρ σ G H → DRs K G ws ds → ∀ Q : L2.St → Hp → Prop, (∀ σ', Sat K G0 B0 ρ' σ' G H → wipe σ' vs = wipe σ vs → Q σ' H) → g ws σ H Q
def wipeS (ρ : List Sl) : List Nat → List Sl
  | [] => ρ
  | v :: vs => (wipeS ρ vs).set v .no
theorem wipe_in {σ : L2.St} {j : Nat} {o : Option V} : ∀ {vs : List Nat}, j ∈ vs → wipe (σ.set j o) vs = wipe σ vs
  | v :: vs, h => by
    show (wipe (σ.set j o) vs).set v none = (wipe σ vs).set v none
    by_cases hj : j ∈ vs
    · rw [wipe_in hj]
    · have e : v = j := by
        rcases List.mem_cons.mp h with z | z
        · exact z.symm
        · exact absurd z hj
      subst e
      have key : ∀ ws : List Nat, v ∉ ws → wipe (σ.set v o) ws = (wipe σ ws).set v o := by
        intro ws
        induction ws with
        | nil => intro _; rfl
        | cons u ws ih =>
          intro hn
          show (wipe (σ.set v o) ws).set u none = ((wipe σ ws).set u none).set v o
          rw [ih fun z => hn (.tail _ z), List.set_comm _ _ (fun z => hn (by rw [z]; exact .head _))]
      rw [key vs hj, List.set_set]
theorem wipe_set2 {σ τ : L2.St} {v : Nat} : ∀ {vs : List Nat}, wipe σ vs = wipe τ vs → wipe σ (v :: vs) = wipe τ (v :: vs) := fun h => by
  show (wipe σ _).set v none = (wipe τ _).set v none
  rw [h]
theorem wipe_wipe (σ : L2.St) : ∀ vs : List Nat, wipe (wipe σ vs) vs = wipe σ vs := by
  have key : ∀ (vs ws : List Nat), (∀ v ∈ ws, v ∈ vs) → wipe (wipe σ ws) vs = wipe σ vs := by
    intro vs ws
    induction ws with
    | nil => intro _; rfl
    | cons u ws ih =>
      intro h
      show wipe ((wipe σ ws).set u none) vs = _
      rw [wipe_in (h u (.head _)), ih fun v hv => h v (.tail _ hv)]
  exact fun vs => key vs vs fun _ h => h
section
variable {K : PySem.W.Frag} {ρ : List Sl} {t ta tb tc te : TE} {a b c d : Dat} {W : WX} {P : Post}
theorem Sat.wipe {G0 B0 G H : Hp} {σ : L2.St} (S : Sat K G0 B0 ρ σ G H) : ∀ vs : List Nat, Sat K G0 B0 (wipeS ρ vs) (L2.wipe σ vs) G H
  | [] => S
  | v :: vs => (S.wipe vs).forget
theorem sgv_name {i : Nat} {vs : List Nat} (h : i ∈ vs) : SemGv K (gName i) vs d ρ (ρ.set i (.dat d)) := fun G0 B0 σ G H v S r Q q => q _ (S.set r) (wipe_in h)
theorem sgvs_nil {vs : List Nat} : SemGvs K gNil vs [] ρ ρ := fun G0 B0 σ G H v S r Q q => by cases r; exact ⟨rfl, q _ S rfl⟩
theorem sgvs_cons {g : TG} {gs : TGs} {ds : List Dat} {vs : List Nat} {ρ1 ρ2 : List Sl} (h1 : SemGv K g vs d ρ ρ1) (h2 : SemGvs K gs vs ds ρ1 ρ2) : SemGvs K (gCons g gs) vs (d :: ds) ρ ρ2 := fun G0 B0 σ G H v S r Q q => by
  cases r with
  | cons ra rb => exact ⟨_, _, rfl, h1 _ _ _ _ _ _ S ra _ fun σ1 S1 e1 => h2 _ _ _ _ _ _ S1 rb _ fun σ2 S2 e2 => q _ S2 (e2.trans e1)⟩
theorem sgv_tup {gs : TGs} {ds : List Dat} {n : Nat} {vs : List Nat} {ρ2 : List Sl} (h : SemGvs K gs vs ds ρ ρ2) (hn : ds.length = n) : SemGv K (gTup K n gs) vs (.tup ds) ρ ρ2 := fun G0 B0 σ G H v S r Q q => by
  cases r with
  | tup h1 r1 => exact ⟨_, _, rfl, Evl.ex_t S.gr.s h1, by rw [r1.length]; exact hn, h _ _ _ _ _ _ S r1 _ q⟩
theorem sn_lcG {α : Type} {wi : TI} {g : TG} {tt : TT} {vs : List Nat} {enc : α → Dat} {xs : List α} {f : α → Bool} {gd : α → Dat} (hi : SemI K wi ρ (xs.map enc)) (hz : xs.length ≤ sizeLine)
    (hx : ∀ x, x ∈ xs → ∃ ρ2, SemGv K g vs (enc x) (wipeS ρ vs) ρ2 ∧ SemT K tt ρ2 (f x) ∧ (f x = true → Sem K te ρ2 (gd x))) : SemN K (tLc wi g tt te vs) ρ ((xs.filter f).map gd) := fun G0 B0 σ G H S Q q =>
  hi _ _ _ _ _ S _ fun J G1 H1 g1 Wk D hD => by
    have S1 := S.grow g1
    refine ⟨fun i m H' => m = xs.length - i ∧ i ≤ xs.length ∧ ∃ G' acc, Grow G1 H1 G' H' ∧ G' D = none ∧ H' D = some (.lst acc) ∧ DRs K G' acc (((xs.take i).filter f).map gd), ⟨xs.length, by omega, Nat.zero_le _, G1, [], Grow.newM g1.s hD, fresh_back g1.s hD, upd_same, .nil⟩, ?_⟩
    rintro i m H' ⟨rfl, hi', G', acc, g2, n2, h2, r2⟩
    have hl : (xs.map enc).length = xs.length := List.length_map _
    have hacc : acc.length ≤ i := by
      rw [r2.length, List.length_map]
      refine Nat.le_trans (List.length_filter_le _ _) ?_
      rw [List.length_take]; omega
    by_cases hlt : i < xs.length
    · have hxi : xs[i]? = some xs[i] := List.getElem?_eq_getElem hlt
      have hd : (xs.map enc)[i]? = some (enc xs[i]) := by rw [List.getElem?_map, hxi]; rfl
      obtain ⟨ρ2, hg, ht, he⟩ := hx _ (List.getElem_mem hlt)
      refine .inr ⟨Wk.go i G' H' g2.g g2.s (by rw [hl]; exact hlt), fun H'' => i + 1 ≤ xs.length ∧ ∃ G' acc, Grow G1 H1 G' H'' ∧ G' D = none ∧ H'' D = some (.lst acc) ∧ DRs K G' acc (((xs.take (i + 1)).filter f).map gd), fun H'' p => ⟨xs.length - (i + 1), by omega, rfl, p⟩, fun x H'' hy => ?_⟩
      obtain ⟨G3, g3, rx⟩ := Wk.yld i G' H' x H'' _ g2.g g2.s hd hy
      have S3 := (((S1.grow g2).grow g3).wipe vs)
      refine hg _ _ _ _ _ _ S3 rx _ fun σ2 S4 ew => ⟨by rw [ew, wipe_wipe], ht _ _ _ _ _ S4 _ fun G4 H4 g4 => ?_⟩
      have n4 : G4 D = none := (g3.trans g4).m D n2 (by rw [h2]; simp)
      have h4 : H4 D = some (.lst acc) := (g3.trans g4).h _ _ h2
      have et : xs.take (i + 1) = xs.take i ++ [xs[i]] := by rw [List.take_add_one, hxi]; rfl
      cases hf : f xs[i] with
      | false =>
        rw [if_neg (by simp)]
        refine ⟨hlt, G4, acc, (g2.trans g3).trans g4, n4, h4, ?_⟩
        rw [et, List.filter_append, List.filter_cons, hf]
        simp only [Bool.false_eq_true, if_false, List.filter_nil, List.append_nil]
        exact r2.mono (g3.trans g4).g
      | true =>
        rw [if_pos rfl]
        refine he hf _ _ _ _ _ (S4.grow g4) _ fun y G5 H5 g5 ry => ?_
        have n5 : G5 D = none := g5.m D n4 (by rw [h4]; simp)
        have h5 : H5 D = some (.lst acc) := g5.h _ _ h4
        have gg := ((g2.trans g3).trans g4).trans g5
        refine ⟨acc, h5, by omega, hlt, G5, acc ++ [y], ⟨gg.g, gg.s.mut n5, gg.h.mut hD, gg.m⟩, n5, upd_same, ?_⟩
        rw [et, List.filter_append, List.filter_cons, hf]
        simp only [if_true, List.filter_nil, List.map_append, List.map_cons, List.map_nil]
        exact (r2.mono ((g3.trans g4).trans g5).g).append (.cons ry .nil)
    · have ei : i = xs.length := by omega
      subst ei
      rw [List.take_length] at r2
      exact .inl ⟨Wk.stop _ G' H' g2.g g2.s (by rw [hl]; exact Nat.le_refl _), q D acc G' H' (g1.trans g2) (fresh_back g1.h hD) n2 h2 r2⟩
theorem sn_lcGA {α : Type} {wi : TI} {g : TG} {vs : List Nat} {enc : α → Dat} {xs : List α} {gd : α → Dat} (hi : SemI K wi ρ (xs.map enc)) (hz : xs.length ≤ sizeLine)
    (hx : ∀ x, x ∈ xs → ∃ ρ2, SemGv K g vs (enc x) (wipeS ρ vs) ρ2 ∧ Sem K te ρ2 (gd x)) : SemN K (tLc wi g tYes te vs) ρ (xs.map gd) := by
  have h := sn_lcG (K := K) (ρ := ρ) (te := te) (tt := tYes) (g := g) (vs := vs) (enc := enc) (xs := xs) (f := fun _ => true) (gd := gd) hi hz fun x hx' => by
    obtain ⟨ρ2, h1, h2⟩ := hx x hx'
    exact ⟨ρ2, h1, st_yes, fun _ => h2⟩
  rw [List.filter_eq_self.mpr (fun _ _ => rfl)] at h
  exact h
/-- a row of data, a list or a tuple -/
def sq (b : Bool) (ds : List Dat) : Dat := if b then .tup ds else .lst ds
theorem sq_seq {b : Bool} {ds : List Dat} : seqD (sq b ds) = some ds := by cases b <;> rfl
theorem sq_items {b : Bool} {ds : List Dat} : itemsD (sq b ds) = some ds := by cases b <;> rfl
theorem cs_lenQ {b : Bool} {ds : List Dat} : CallS K (uLen K) [sq b ds] (.int ds.length) := by
  cases b
  · exact cs_lenL
  · exact cs_lenU
end
end DL
namespace DL
open PySem PySem.Spec PyProof.Rows L2
/-- lists of unlike lengths -/
def rEqLen (K : PySem.W.Frag) : R2 := fun x y H Q => ∃ a b xs ys, x = .ref a ∧ y = .ref b ∧ SqL K H a xs ∧ SqL K H b ys ∧ xs.length ≠ ys.length ∧ Q (.bl false) H
def rNeLen (K : PySem.W.Frag) : R2 := fun x y H Q => ∃ a b xs ys, x = .ref a ∧ y = .ref b ∧ SqL K H a xs ∧ SqL K H b ys ∧ xs.length ≠ ys.length ∧ Q (.bl true) H
def uEqL (K : PySem.W.Frag) : R2 := fun x y H Q => uEq K x y H Q ∨ rEqLen K x y H Q
def uNeL (K : PySem.W.Frag) : R2 := fun x y H Q => uNe K x y H Q ∨ rNeLen K x y H Q
section
variable {X : Cx} {K : PySem.W.Frag}
theorem ou_eqL (hK : X.K = K) (hu : X.A.units + 64 < cLine) : OpR X (compareOp .Eq) (uEqL K) := by
  refine OpR.or (ou_eq hK hu) ?_
  subst hK
  intro pins s σ H x y v u Q I rx ry h
  obtain ⟨a, b, xs, ys, rfl, rfl, ha, hb, hn, q⟩ := h
  obtain ⟨its, r1, l1, _⟩ := I.list ha
  obtain ⟨jts, r2, l2, _⟩ := I.list hb
  cases rx; cases ry
  exact SeqAt.RcAt.lists_lengths l1.isList l2.isList (by simp only [List.size_toArray]; rw [← r1.length, ← r2.length]; simpa using hn) (by omega) _ _ _ _ ⟨.bl _, H, I, rfl, q⟩
theorem ou_neL (hK : X.K = K) (hu : X.A.units + 64 < cLine) : OpR X (compareOp .NotEq) (uNeL K) := by
  refine OpR.or (ou_ne hK hu) ?_
  subst hK
  intro pins s σ H x y v u Q I rx ry h
  obtain ⟨a, b, xs, ys, rfl, rfl, ha, hb, hn, q⟩ := h
  obtain ⟨its, r1, l1, _⟩ := I.list ha
  obtain ⟨jts, r2, l2, _⟩ := I.list hb
  cases rx; cases ry
  exact SeqAt.RcNeAt.lists_lengths l1.isList l2.isList (by simp only [List.size_toArray]; rw [← r1.length, ← r2.length]; simpa using hn) (by omega) _ _ _ _ ⟨.bl _, H, I, rfl, q⟩
theorem os_eqNil {ds : List Dat} : OpS K (uEqL K) (.lst ds) (.lst []) (.bl ds.isEmpty) := fun x y G H e rx ry Q q => by
  cases ds with
  | nil => exact .inl (os_eqD (a := .lst []) (b := .lst []) rfl rfl (by decide) (by decide) x y G H e rx ry Q q)
  | cons d r =>
    cases rx with
    | lst h1 r1 =>
      cases ry with
      | lst h2 r2 => exact .inr ⟨_, _, _, _, rfl, rfl, .inl (.inl (e _ _ h1)), .inl (.inl (e _ _ h2)), by rw [r1.length, r2.length]; simp, q _ _ _ (Grow.refl e) (.bl _)⟩
theorem os_neNil {ds : List Dat} : OpS K (uNeL K) (.lst ds) (.lst []) (.bl (!ds.isEmpty)) := fun x y G H e rx ry Q q => by
  cases ds with
  | nil => exact .inl (os_neD (a := .lst []) (b := .lst []) rfl rfl (by decide) (by decide) x y G H e rx ry Q q)
  | cons d r =>
    cases rx with
    | lst h1 r1 =>
      cases ry with
      | lst h2 r2 => exact .inr ⟨_, _, _, _, rfl, rfl, .inl (.inl (e _ _ h1)), .inl (.inl (e _ _ h2)), by rw [r1.length, r2.length]; simp, q _ _ _ (Grow.refl e) (.bl _)⟩
theorem os_neNilS {ns : List Int} : OpS K (uNeL K) (.scr ns) (.lst []) (.bl (!ns.isEmpty)) := fun x y G H e rx ry Q q => .inl (os_neScr x y G H e rx ry Q q)
/-- x in a list, by data -/
theorem os_inE {β : Type} [DecidableEq β] {enc : β → Dat} {b : β} {bs : List β} (p1 : plainD (enc b) = true) (p2 : ∀ x ∈ bs, plainD (enc x) = true) (s1 : SeqAt.shaped (toPy (enc b)) = true) (s2 : SeqAt.shaped (.list (bs.map fun x => toPy (enc x))) = true)
    (hq : ∀ x ∈ bs, PyData.eqv (toPy (enc x)) (toPy (enc b)) = decide (x = b)) : OpS K (uIn K) (enc b) (.lst (bs.map enc)) (.bl (decide (b ∈ bs))) := fun x y G H e rx ry Q q => by
  have e0 : toPys (bs.map enc) = bs.map fun x => toPy (enc x) := by rw [toPys_map, List.map_map]; rfl
  refine .inr (.inr ⟨_, bs.map fun x => toPy (enc x), (rx.mono e).dp p1, ?_, s1, s2, ?_⟩)
  · have z := (ry.mono e).dp (d := .lst (bs.map enc)) (plainDs_map p2)
    have z2 : toPy (.lst (bs.map enc)) = .list (bs.map fun x => toPy (enc x)) := by rw [← e0]; rfl
    rwa [z2] at z
  · have z : ((bs.map fun x => toPy (enc x)).any fun z => PyData.eqv z (toPy (enc b))) = decide (b ∈ bs) := by
      rw [List.any_map]
      rw [Bool.eq_iff_iff, List.any_eq_true, decide_eq_true_eq]
      constructor
      · rintro ⟨x, hx, hq'⟩
        have hq' : PyData.eqv (toPy (enc x)) (toPy (enc b)) = true := hq'
        rw [hq x hx, decide_eq_true_eq] at hq'
        exact hq' ▸ hx
      · intro hb
        exact ⟨b, hb, by show PyData.eqv (toPy (enc b)) (toPy (enc b)) = true; rw [hq b hb, decide_eq_true_eq]⟩
    rw [z]
    exact q _ _ _ (Grow.refl e) (.bl _)
theorem os_notinE {β : Type} [DecidableEq β] {enc : β → Dat} {b : β} {bs : List β} (p1 : plainD (enc b) = true) (p2 : ∀ x ∈ bs, plainD (enc x) = true) (s1 : SeqAt.shaped (toPy (enc b)) = true) (s2 : SeqAt.shaped (.list (bs.map fun x => toPy (enc x))) = true)
    (hq : ∀ x ∈ bs, PyData.eqv (toPy (enc x)) (toPy (enc b)) = decide (x = b)) : OpS K (uNotIn K) (enc b) (.lst (bs.map enc)) (.bl (!decide (b ∈ bs))) := fun x y G H e rx ry Q q => by
  have e0 : toPys (bs.map enc) = bs.map fun x => toPy (enc x) := by rw [toPys_map, List.map_map]; rfl
  refine .inr (.inr ⟨_, bs.map fun x => toPy (enc x), (rx.mono e).dp p1, ?_, s1, s2, ?_⟩)
  · have z := (ry.mono e).dp (d := .lst (bs.map enc)) (plainDs_map p2)
    have z2 : toPy (.lst (bs.map enc)) = .list (bs.map fun x => toPy (enc x)) := by rw [← e0]; rfl
    rwa [z2] at z
  · have z : ((bs.map fun x => toPy (enc x)).any fun z => PyData.eqv z (toPy (enc b))) = decide (b ∈ bs) := by
      rw [List.any_map]
      rw [Bool.eq_iff_iff, List.any_eq_true, decide_eq_true_eq]
      constructor
      · rintro ⟨x, hx, hq'⟩
        have hq' : PyData.eqv (toPy (enc x)) (toPy (enc b)) = true := hq'
        rw [hq x hx, decide_eq_true_eq] at hq'
        exact hq' ▸ hx
      · intro hb
        exact ⟨b, hb, by show PyData.eqv (toPy (enc b)) (toPy (enc b)) = true; rw [hq b hb, decide_eq_true_eq]⟩
    rw [z]
    exact q _ _ _ (Grow.refl e) (.bl _)
end
/-! rows of texts and ints as data -/
def leafD : Dat → Bool
  | .txt _ => true
  | .int _ => true
  | .bl _ => true
  | .non => true
  | _ => false
end DL

set_option Elab.async false
set_option linter.all false
set_option maxRecDepth 100000
set_option maxHeartbeats 1000000
/-! DLl: data that can be compared: == is = -/
namespace DL
open PySem PySem.Spec PyProof.Rows L2
def Okc (t : List Nat) : Prop := ∀ c ∈ t, c < 1114112
/-- None, ints, texts, and lists and tuples of them, at most n deep -/
def goodD : Nat → Dat → Prop
  | _, .non => True
  | _, .int _ => True
  | _, .txt t => Okc t
  | n + 1, .lst ds => ∀ d ∈ ds, goodD n d
  | n + 1, .tup ds => ∀ d ∈ ds, goodD n d
  | _, _ => False
theorem okc_str {t : List Nat} (h : Okc t) : PyData.strOk (strL t) = true := by
  unfold PyData.strOk strL
  rw [← Array.all_toList, List.all_eq_true]
  exact fun c hc => decide_eq_true (h c hc)
theorem good_facts : ∀ (n : Nat) (d : Dat), goodD n d → plainD d = true ∧ PyData.canLay0 (toPy d) = true ∧ PyData.depth (toPy d) ≤ n := by
  intro n
  induction n with
  | zero =>
    intro d h
    cases d with
    | non => exact ⟨rfl, rfl, Nat.le_refl _⟩
    | int i => exact ⟨rfl, rfl, Nat.le_refl _⟩
    | txt t => exact ⟨rfl, okc_str h, Nat.le_refl _⟩
    | _ => exact h.elim
  | succ n ih =>
    have all : ∀ ds : List Dat, (∀ d ∈ ds, goodD n d) → plainDs ds = true ∧ PyData.canLayAll0 (toPys ds) = true ∧ PyData.depthAll (toPys ds) ≤ n := by
      intro ds
      induction ds with
      | nil => intro _; exact ⟨rfl, rfl, Nat.zero_le _⟩
      | cons d r ih2 =>
        intro h
        obtain ⟨a1, a2, a3⟩ := ih d (h d (.head _))
        obtain ⟨b1, b2, b3⟩ := ih2 fun x hx => h x (.tail _ hx)
        refine ⟨?_, ?_, ?_⟩
        · show (plainD d && plainDs r) = true
          rw [a1, b1]; rfl
        · show (PyData.canLay0 (toPy d) && PyData.canLayAll0 (toPys r)) = true
          rw [a2, b2]; rfl
        · show max (PyData.depth (toPy d)) (PyData.depthAll (toPys r)) ≤ n
          omega
    intro d h
    cases d with
    | non => exact ⟨rfl, rfl, Nat.zero_le _⟩
    | int i => exact ⟨rfl, rfl, Nat.zero_le _⟩
    | txt t => exact ⟨rfl, okc_str h, Nat.zero_le _⟩
    | lst ds =>
      obtain ⟨a1, a2, a3⟩ := all ds h
      exact ⟨a1, a2, by show PyData.depthAll (toPys ds) + 1 ≤ n + 1; omega⟩
    | tup ds =>
      obtain ⟨a1, a2, a3⟩ := all ds h
      exact ⟨a1, a2, by show PyData.depthAll (toPys ds) + 1 ≤ n + 1; omega⟩
    | _ => exact h.elim
theorem good_mono : ∀ {n m : Nat} {d : Dat}, n ≤ m → goodD n d → goodD m d := by
  intro n
  induction n with
  | zero =>
    intro m d _ h
    cases d with
    | non => cases m <;> exact trivial
    | int i => cases m <;> exact trivial
    | txt t => cases m <;> exact h
    | _ => exact h.elim
  | succ n ih =>
    intro m d hm h
    cases m with
    | zero => omega
    | succ m =>
      cases d with
      | non => exact trivial
      | int i => exact trivial
      | txt t => exact h
      | lst ds => exact fun d hd => ih (by omega) (h d hd)
      | tup ds => exact fun d hd => ih (by omega) (h d hd)
      | _ => exact h.elim
theorem good_eqv : ∀ (n m : Nat) (a b : Dat), goodD n a → goodD m b → (PyData.eqv (toPy a) (toPy b) = true ↔ a = b) := by
  intro n
  induction n with
  | zero =>
    intro m a b ha hb
    cases a with
    | non => cases b <;> first | (cases m <;> exact False.elim hb) | exact ⟨fun _ => rfl, fun _ => rfl⟩ | exact ⟨fun z => (by cases z), fun z => (by cases z)⟩
    | int i =>
      cases b with
      | int j => exact ⟨fun z => by rw [show i = j by simpa [toPy, PyData.eqv] using z], fun z => by cases z; simp [toPy, PyData.eqv]⟩
      | non => exact ⟨fun z => (by cases z), fun z => (by cases z)⟩
      | txt t => exact ⟨fun z => (by cases z), fun z => (by cases z)⟩
      | lst ds => exact ⟨fun z => (by cases z), fun z => (by cases z)⟩
      | tup ds => exact ⟨fun z => (by cases z), fun z => (by cases z)⟩
      | _ => cases m <;> exact hb.elim
    | txt t =>
      cases b with
      | txt u => exact ⟨fun z => by rw [strL_inj (show strL t = strL u by simpa [toPy, PyData.eqv] using z)], fun z => by cases z; simp [toPy, PyData.eqv]⟩
      | non => exact ⟨fun z => (by cases z), fun z => (by cases z)⟩
      | int t => exact ⟨fun z => (by cases z), fun z => (by cases z)⟩
      | lst ds => exact ⟨fun z => (by cases z), fun z => (by cases z)⟩
      | tup ds => exact ⟨fun z => (by cases z), fun z => (by cases z)⟩
      | _ => cases m <;> exact hb.elim
    | _ => exact ha.elim
  | succ n ih =>
    have all : ∀ (m : Nat) (as bs : List Dat), (∀ d ∈ as, goodD n d) → (∀ d ∈ bs, goodD m d) → (PyData.eqvAll (toPys as) (toPys bs) = true ↔ as = bs) := by
      intro m as
      induction as with
      | nil => intro bs _ _; cases bs <;> first | exact ⟨fun _ => rfl, fun _ => rfl⟩ | exact ⟨fun z => (by cases z), fun z => (by cases z)⟩
      | cons a r ih2 =>
        intro bs ha hb
        cases bs with
        | nil => exact ⟨fun z => (by cases z), fun z => (by cases z)⟩
        | cons b s =>
          have h1 := ih m a b (ha a (.head _)) (hb b (.head _))
          have h2 := ih2 s (fun x hx => ha x (.tail _ hx)) (fun x hx => hb x (.tail _ hx))
          show (PyData.eqv (toPy a) (toPy b) && PyData.eqvAll (toPys r) (toPys s)) = true ↔ _
          rw [Bool.and_eq_true, h1, h2, List.cons.injEq]
    intro m a b ha hb
    cases a with
    | non => cases b <;> first | (cases m <;> exact False.elim hb) | exact ⟨fun _ => rfl, fun _ => rfl⟩ | exact ⟨fun z => (by cases z), fun z => (by cases z)⟩
    | int i =>
      cases b with
      | int j => exact ⟨fun z => by rw [show i = j by simpa [toPy, PyData.eqv] using z], fun z => by cases z; simp [toPy, PyData.eqv]⟩
      | non => exact ⟨fun z => (by cases z), fun z => (by cases z)⟩
      | txt t => exact ⟨fun z => (by cases z), fun z => (by cases z)⟩
      | lst ds => exact ⟨fun z => (by cases z), fun z => (by cases z)⟩
      | tup ds => exact ⟨fun z => (by cases z), fun z => (by cases z)⟩
      | _ => cases m <;> exact hb.elim
    | txt t =>
      cases b with
      | txt u => exact ⟨fun z => by rw [strL_inj (show strL t = strL u by simpa [toPy, PyData.eqv] using z)], fun z => by cases z; simp [toPy, PyData.eqv]⟩
      | non => exact ⟨fun z => (by cases z), fun z => (by cases z)⟩
      | int t => exact ⟨fun z => (by cases z), fun z => (by cases z)⟩
      | lst ds => exact ⟨fun z => (by cases z), fun z => (by cases z)⟩
      | tup ds => exact ⟨fun z => (by cases z), fun z => (by cases z)⟩
      | _ => cases m <;> exact hb.elim
    | lst as =>
      cases b with
      | lst bs =>
        cases m with
        | zero => exact hb.elim
        | succ m =>
          have h := all m as bs ha hb
          exact ⟨fun z => by rw [h.mp z], fun z => h.mpr (by cases z; rfl)⟩
      | non => exact ⟨fun z => (by cases z), fun z => (by cases z)⟩
      | int t => exact ⟨fun z => (by cases z), fun z => (by cases z)⟩
      | txt ds => exact ⟨fun z => (by cases z), fun z => (by cases z)⟩
      | tup ds => exact ⟨fun z => (by cases z), fun z => (by cases z)⟩
      | _ => cases m <;> exact hb.elim
    | tup as =>
      cases b with
      | tup bs =>
        cases m with
        | zero => exact hb.elim
        | succ m =>
          have h := all m as bs ha hb
          exact ⟨fun z => by rw [h.mp z], fun z => h.mpr (by cases z; rfl)⟩
      | non => exact ⟨fun z => (by cases z), fun z => (by cases z)⟩
      | int t => exact ⟨fun z => (by cases z), fun z => (by cases z)⟩
      | txt ds => exact ⟨fun z => (by cases z), fun z => (by cases z)⟩
      | lst ds => exact ⟨fun z => (by cases z), fun z => (by cases z)⟩
      | _ => cases m <;> exact hb.elim
    | _ => exact ha.elim
theorem good_shaped {n : Nat} {d : Dat} (h : goodD n d) (hn : n ≤ 60) : SeqAt.shaped (toPy d) = true := by
  obtain ⟨_, a2, a3⟩ := good_facts n d h
  unfold SeqAt.shaped
  rw [a2, decide_eq_true (by omega)]; rfl
section
variable {K : PySem.W.Frag} {a b : Dat} {n m : Nat} {k : Bool}
theorem os_eqK (ha : goodD n a) (hb : goodD m b) (hn : n ≤ 60) (hm : m ≤ 60) (hk : k = true ↔ a = b) : OpS K (uEq K) a b (.bl k) := by
  have z := os_eqD (K := K) (good_facts n a ha).1 (good_facts m b hb).1 (good_shaped ha hn) (good_shaped hb hm)
  have e : PyData.eqv (toPy a) (toPy b) = k := by rw [Bool.eq_iff_iff, good_eqv n m a b ha hb, hk]
  rwa [e] at z
theorem os_neK (ha : goodD n a) (hb : goodD m b) (hn : n ≤ 60) (hm : m ≤ 60) (hk : k = true ↔ a = b) : OpS K (uNe K) a b (.bl (!k)) := by
  have z := os_neD (K := K) (good_facts n a ha).1 (good_facts m b hb).1 (good_shaped ha hn) (good_shaped hb hm)
  have e : PyData.eqv (toPy a) (toPy b) = k := by rw [Bool.eq_iff_iff, good_eqv n m a b ha hb, hk]
  rwa [e] at z
theorem any_good {ds : List Dat} (ha : goodD n a) (hb : ∀ d ∈ ds, goodD m d) (hk : k = true ↔ a ∈ ds) : ((toPys ds).any fun z => PyData.eqv z (toPy a)) = k := by
  rw [toPys_map, List.any_map, Bool.eq_iff_iff, List.any_eq_true, hk]
  constructor
  · rintro ⟨x, hx, e⟩
    have e : PyData.eqv (toPy x) (toPy a) = true := e
    rw [good_eqv m n x a (hb x hx) ha] at e
    exact e ▸ hx
  · intro h
    exact ⟨a, h, (good_eqv m n a a (hb a h) ha).mpr rfl⟩
theorem os_inK {ds : List Dat} (ha : goodD n a) (hb : ∀ d ∈ ds, goodD m d) (hn : n ≤ 60) (hm : m ≤ 59) (hk : k = true ↔ a ∈ ds) : OpS K (uIn K) a (.lst ds) (.bl k) := fun x y G H e rx ry Q q => by
  have gl : goodD (m + 1) (.lst ds) := hb
  refine .inr (.inr ⟨_, toPys ds, (rx.mono e).dp (good_facts n a ha).1, (ry.mono e).dp (good_facts _ _ gl).1, good_shaped ha hn, good_shaped gl (by omega), ?_⟩)
  rw [any_good ha hb hk]
  exact q _ _ _ (Grow.refl e) (.bl _)
theorem os_notinK {ds : List Dat} (ha : goodD n a) (hb : ∀ d ∈ ds, goodD m d) (hn : n ≤ 60) (hm : m ≤ 59) (hk : k = true ↔ a ∈ ds) : OpS K (uNotIn K) a (.lst ds) (.bl (!k)) := fun x y G H e rx ry Q q => by
  have gl : goodD (m + 1) (.lst ds) := hb
  refine .inr (.inr ⟨_, toPys ds, (rx.mono e).dp (good_facts n a ha).1, (ry.mono e).dp (good_facts _ _ gl).1, good_shaped ha hn, good_shaped gl (by omega), ?_⟩)
  rw [any_good ha hb hk]
  exact q _ _ _ (Grow.refl e) (.bl _)
end
theorem good_map {α : Type} {n : Nat} {enc : α → Dat} {xs : List α} (h : ∀ x ∈ xs, goodD n (enc x)) : ∀ d ∈ xs.map enc, goodD n d := fun d hd => by
  obtain ⟨x, hx, rfl⟩ := List.mem_map.mp hd
  exact h x hx
theorem toPy_inj {n m : Nat} {a b : Dat} (ha : goodD n a) (hb : goodD m b) (h : toPy a = toPy b) : a = b := by
  rw [← good_eqv n m a b ha hb, h]
  exact (good_eqv m m b b hb hb).mpr rfl
end DL

set_option Elab.async false
set_option linter.all false
set_option maxRecDepth 100000
set_option maxHeartbeats 1000000
/-! DLm: what is told by properties alone: values of some kind, or exceptions; slots may change on the way -/
namespace DL
open PySem PySem.Spec PyProof.Rows L2
open Evl (Ex fresh_back)
abbrev SP := Dat → List Sl → Prop
abbrev XP := Addr → List (Str × Dat) → List Sl → Prop
abbrev noX : XP := fun _ _ _ => False
def SemE (K : PySem.W.Frag) (W : WX) (t : TE) (ρ : List Sl) (S : SP) (X : XP) : Prop :=
  ∀ G0 B0 σ G H, Sat K G0 B0 ρ σ G H → ∀ Q : VK, (∀ d v ρ' G' H', S d ρ' → Sat K G0 B0 ρ' σ G' H' → Ex G G' → DR K G' v d → Q v H') → (∀ C fs dd ρ' G' H', X C fs ρ' → Sat K G0 B0 ρ' σ G' H' → DX K G' dd fs → W (.ref C) dd σ H') → t σ H Q
def SemET (K : PySem.W.Frag) (W : WX) (t : TT) (ρ : List Sl) (S : Bool → List Sl → Prop) (X : XP) : Prop :=
  ∀ G0 B0 σ G H, Sat K G0 B0 ρ σ G H → ∀ Q : Bool → Hp → Prop, (∀ b ρ' G' H', S b ρ' → Sat K G0 B0 ρ' σ G' H' → Ex G G' → Q b H') → (∀ C fs dd ρ' G' H', X C fs ρ' → Sat K G0 B0 ρ' σ G' H' → DX K G' dd fs → W (.ref C) dd σ H') → t σ H Q
def SemEA (K : PySem.W.Frag) (W : WX) (t : TA) (ρ : List Sl) (S : List Dat → List Sl → Prop) (X : XP) : Prop :=
  ∀ G0 B0 σ G H, Sat K G0 B0 ρ σ G H → ∀ Q : List V → Hp → Prop, (∀ ds vs ρ' G' H', S ds ρ' → Sat K G0 B0 ρ' σ G' H' → Ex G G' → DRs K G' vs ds → Q vs H') → (∀ C fs dd ρ' G' H', X C fs ρ' → Sat K G0 B0 ρ' σ G' H' → DX K G' dd fs → W (.ref C) dd σ H') → t σ H Q
/-- a promise by properties -/
def spN (K : PySem.W.Frag) (D : List Dat → Prop) (R : List Dat → Out → Prop) : Sp := fun vs H Q E => ∃ G ds, Ex G H ∧ DRs K G vs ds ∧ D ds ∧
  (∀ d v G' H', R ds (.val d) → Grow G H G' H' → DR K G' v d → Q v H') ∧ (∀ C fs dd G' H', R ds (.exc C fs) → Grow G H G' H' → DX K G' dd fs → E (.ref C) dd H') ∧
  (∀ o v T G' H', R ds (.mt o) → Grow G H G' H' → OR K G' H' v o T → (∀ a ∈ T, H a = none ∧ G' a = none) → Q v H')
def PN (S : Out → Prop) : Post where
  nx := fun _ => S (.val .non)
  rt := fun d => S (.val d)
  rn := fun o => S (.mt o)
  ex := fun C fs _ => S (.exc C fs)
/-- of a def that raises nothing -/
def PY (S : Dat → Prop) : Post where
  nx := fun _ => S .non
  rt := S
abbrev valR (S : List Dat → Dat → Prop) (ds : List Dat) (o : Out) : Prop := ∃ d, o = .val d ∧ S ds d
section
variable {P : Program} {w : World} {K : PySem.W.Frag} {mg : Str → Option Value} {base : Heap}
theorem fn_nx {x qual : Str} {st : Stmt} {f : Addr} {fd : FuncData} {N ps : List Str} {k : Nat} {D : List Dat → Prop} {R : List Dat → Out → Prop} {T : WX → TS} (F : Fun K x qual st f fd) (S : FnScope N ps (defScope st))
    (hlen : ∀ ds, D ds → ds.length = ps.length)
    (hp : ∀ (cdv : Value) (A : Around) (outer : List Env) (s : Shared) (H : Hp) (E : XK), Room k (A.deeper (envOfC qual (defScope st) s.heap.objs.size f cdv)) → PSs (cxOf (L2.CX P w) P w K mg base N qual (defScope st) f cdv A outer s H E) (defBody st) (T fun cls d _ H => E cls d H))
    (hs : ∀ W ds, D ds → SemS K W (T W) (slots N.length ds) (PN (R ds))) : FnOk P w K mg base (L2.CX P w) (k + 1) f fd ps (spN K D R) := by
  refine F.okX S (fun vs H Q E h => ?_) (fun cdv A outer s H vs Q E hr h => ?_)
  · obtain ⟨G, ds, e, r, hD, _⟩ := h
    rw [r.length]; exact hlen ds hD
  · obtain ⟨G, ds, e, r, hD, q1, q2, q3⟩ := h
    exact ⟨_, hp cdv A outer s H E hr, hs _ ds hD G H _ G H _ (sat_start e r) (fun ρ' σ' G' H' h S' => q1 _ _ _ _ h S'.gr .non) ⟨fun d' v G' H' h g rv => q1 _ _ _ _ h g rv, fun o v T G' H' h g k1 k2 => q3 _ _ _ _ _ h g k1 k2, fun _ _ _ _ _ _ h _ _ => h.elim⟩ (fun _ _ _ _ h _ => h.elim) (fun _ _ _ _ h _ => h.elim) (fun C' fs' dd ρ' σ' G' H' h S' hx => q2 _ _ _ _ _ h S'.gr hx)⟩
theorem gxn_of {x qual : Str} {st : Stmt} {f : Addr} {fd : FuncData} {N ps : List Str} {k : Nat} {D : List Dat → Prop} {R : List Dat → Out → Prop} {T : WX → TS} (F : Fun K x qual st f fd) (hm : mg x = some (.ref f)) (hb : Binds K fd ps []) (S : FnScope N ps (defScope st))
    (hlen : ∀ ds, D ds → ds.length = ps.length)
    (hp : ∀ (cdv : Value) (A : Around) (outer : List Env) (s : Shared) (H : Hp) (E : XK), Room k (A.deeper (envOfC qual (defScope st) s.heap.objs.size f cdv)) → PSs (cxOf (L2.CX P w) P w K mg base N qual (defScope st) f cdv A outer s H E) (defBody st) (T fun cls d _ H => E cls d H))
    (hs : ∀ W ds, D ds → SemS K W (T W) (slots N.length ds) (PN (R ds))) : GX P w K mg base (k + 1) x ps (spN K D R) :=
  ⟨f, fd, fn_nx F S hlen hp hs, hm, F.kp, hb⟩
theorem fn_n {x qual : Str} {st : Stmt} {f : Addr} {fd : FuncData} {N ps : List Str} {k : Nat} {D : List Dat → Prop} {R : List Dat → Dat → Prop} {T : TS} (F : Fun K x qual st f fd) (S : FnScope N ps (defScope st))
    (hlen : ∀ ds, D ds → ds.length = ps.length)
    (hp : ∀ (cdv : Value) (A : Around) (outer : List Env) (s : Shared) (H : Hp) (E : XK), Room k (A.deeper (envOfC qual (defScope st) s.heap.objs.size f cdv)) → PSs (cxOf CX0 P w K mg base N qual (defScope st) f cdv A outer s H E).nox (defBody st) T)
    (hs : ∀ ds, D ds → SemS K (fun _ _ _ _ => False) T (slots N.length ds) (PY (R ds))) : FnOk P w K mg base CX0 (k + 1) f fd ps (spN K D (valR R)) := by
  refine F.ok S (fun vs H Q E h => ?_) (fun cdv A outer s H vs Q E hr h => ?_)
  · obtain ⟨G, ds, e, r, hD, _⟩ := h
    rw [r.length]; exact hlen ds hD
  · obtain ⟨G, ds, e, r, hD, q1, _, _⟩ := h
    exact ⟨T, hp cdv A outer s H E hr, hs ds hD G H _ G H _ (sat_start e r) (fun ρ' σ' G' H' h S' => q1 _ _ _ _ ⟨_, rfl, h⟩ S'.gr .non) ⟨fun d' v G' H' h g rv => q1 _ _ _ _ ⟨_, rfl, h⟩ g rv, fun _ _ _ _ _ h _ _ _ => h.elim, fun _ _ _ _ _ _ h _ _ => h.elim⟩ (fun _ _ _ _ h _ => h.elim) (fun _ _ _ _ h _ => h.elim) (fun _ _ _ _ _ _ _ h _ _ => h.elim)⟩
theorem gn_of {x qual : Str} {st : Stmt} {f : Addr} {fd : FuncData} {N ps : List Str} {k : Nat} {D : List Dat → Prop} {R : List Dat → Dat → Prop} {T : TS} (F : Fun K x qual st f fd) (hm : mg x = some (.ref f)) (hb : Binds K fd ps []) (S : FnScope N ps (defScope st))
    (hlen : ∀ ds, D ds → ds.length = ps.length)
    (hp : ∀ (cdv : Value) (A : Around) (outer : List Env) (s : Shared) (H : Hp) (E : XK), Room k (A.deeper (envOfC qual (defScope st) s.heap.objs.size f cdv)) → PSs (cxOf CX0 P w K mg base N qual (defScope st) f cdv A outer s H E).nox (defBody st) T)
    (hs : ∀ ds, D ds → SemS K (fun _ _ _ _ => False) T (slots N.length ds) (PY (R ds))) : GD P w K mg base (k + 1) x ps (spN K D (valR R)) :=
  ⟨f, fd, fn_n F S hlen hp hs, hm, F.kp, hb⟩
end
section
variable {K : PySem.W.Frag} {W : WX} {ρ : List Sl} {t ta tb tc te : TE} {tt : TT} {u : TA} {a b c d : Dat} {P : Post} {S S' : SP} {X X' : XP}
theorem se_of (h : Sem K t ρ d) (hs : S d ρ) : SemE K W t ρ S X := fun G0 B0 σ G H St Q q _ => h _ _ _ _ _ St _ fun v G1 H1 g1 rv => q d v ρ G1 H1 hs (St.grow g1) g1.g rv
theorem se_mono (h : SemE K W t ρ S' X') (h1 : ∀ d ρ', S' d ρ' → S d ρ') (h2 : ∀ C fs ρ', X' C fs ρ' → X C fs ρ') : SemE K W t ρ S X := fun G0 B0 σ G H St Q q x =>
  h _ _ _ _ _ St _ (fun d v ρ' G' H' hs => q d v ρ' G' H' (h1 _ _ hs)) fun C fs dd ρ' G' H' hx => x C fs dd ρ' G' H' (h2 _ _ _ hx)
theorem set_of {k : Bool} {S : Bool → List Sl → Prop} (h : SemT K tt ρ k) (hs : S k ρ) : SemET K W tt ρ S X := fun G0 B0 σ G H St Q q _ => h _ _ _ _ _ St _ fun G1 H1 g1 => q k ρ G1 H1 hs (St.grow g1) g1.g
theorem sea_nil {S : List Dat → List Sl → Prop} (hs : S [] ρ) : SemEA K W tNil ρ S X := fun G0 B0 σ G H St Q q _ => q [] [] ρ G H hs St (Evl.Ex.refl _) .nil
theorem sea_of {S : List Dat → List Sl → Prop} {ds : List Dat} (h : SemA K u ρ ds) (hs : S ds ρ) : SemEA K W u ρ S X := fun G0 B0 σ G H St Q q _ => h _ _ _ _ _ St _ fun vs G1 H1 g1 rv => q ds vs ρ G1 H1 hs (St.grow g1) g1.g rv
theorem sea_cons {S : List Dat → List Sl → Prop} (ha : SemE K W ta ρ S' X) (hr : ∀ d ρ1, S' d ρ1 → SemEA K W u ρ1 (fun ds ρ2 => S (d :: ds) ρ2) X) : SemEA K W (tCons ta u) ρ S X := fun G0 B0 σ G H St Q q x =>
  ha _ _ _ _ _ St _ (fun d v ρ1 G1 H1 hs St1 e1 rv => hr d ρ1 hs _ _ _ _ _ St1 _ (fun ds vs ρ2 G2 H2 hs2 St2 e2 rvs => q _ _ _ _ _ hs2 St2 (e1.trans e2) (.cons (rv.mono e2) rvs)) x) x
theorem se_op {r : R2} {Sb : SP} (ha : SemE K W ta ρ S' X) (hb : ∀ a ρ1, S' a ρ1 → SemE K W tb ρ1 (fun b ρ2 => ∃ c, OpS K r a b c ∧ S c ρ2) X) : SemE K W (tOp r ta tb) ρ S X := fun G0 B0 σ G H St Q q x =>
  ha _ _ _ _ _ St _ (fun a v ρ1 G1 H1 hs St1 e1 rv => hb a ρ1 hs _ _ _ _ _ St1 _ (fun b y ρ2 G2 H2 hs2 St2 e2 ry => by
    obtain ⟨c, ho, hc⟩ := hs2
    exact ho v y G2 H2 St2.gr.s (rv.mono e2) ry Q fun z G3 H3 g3 rz => q c z ρ2 G3 H3 hc (St2.grow g3) ((e1.trans e2).trans g3.g) rz) x) x
theorem set_test {S : Bool → List Sl → Prop} (h : SemE K W te ρ (fun d ρ' => ∃ b, d = .bl b ∧ S b ρ') X) : SemET K W (tTest te) ρ S X := fun G0 B0 σ G H St Q q x =>
  h _ _ _ _ _ St _ (fun d v ρ1 G1 H1 hs St1 e1 rv => by
    obtain ⟨b, rfl, hb⟩ := hs
    cases rv
    exact ⟨b, rfl, q b ρ1 G1 H1 hb St1 e1⟩) x
theorem set_tru {S : Bool → List Sl → Prop} (h : SemE K W te ρ (fun d ρ' => ∃ b, d = .bl b ∧ S b ρ') X) : SemET K W (tTru K te) ρ S X := fun G0 B0 σ G H St Q q x => by
  have key : ∀ (b : Bool) (ρ1 : List Sl) (G1 H1 : Hp), S b ρ1 → Sat K G0 B0 ρ1 σ G1 H1 → Ex G G1 → (tTru K (tC (.bl b))) σ H1 Q := fun b ρ1 G1 H1 hb St1 e1 => (st_bl (K := K) (ρ := ρ1) (s_bl (i := b))) _ _ _ _ _ St1 _ fun G2 H2 g2 => q b ρ1 G2 H2 hb (St1.grow g2) (e1.trans g2.g)
  exact h _ _ _ _ _ St _ (fun d v ρ1 G1 H1 hs St1 e1 rv => by
    obtain ⟨b, rfl, hb⟩ := hs
    cases rv
    exact key b ρ1 G1 H1 hb St1 e1) x
theorem set_not {S : Bool → List Sl → Prop} (h : SemET K W tt ρ (fun b ρ' => S (!b) ρ') X) : SemET K W (tNot tt) ρ S X := fun G0 B0 σ G H St Q q x =>
  h _ _ _ _ _ St _ (fun b ρ1 G1 H1 hs St1 e1 => q (!b) ρ1 G1 H1 hs St1 e1) x
theorem set_or {S : Bool → List Sl → Prop} {tu : TT} {S1 : Bool → List Sl → Prop} (h : SemET K W tt ρ S1 X) (h1 : ∀ ρ', S1 true ρ' → S true ρ') (h2 : ∀ ρ', S1 false ρ' → SemET K W tu ρ' S X) : SemET K W (tOr tt tu) ρ S X := fun G0 B0 σ G H St Q q x =>
  h _ _ _ _ _ St _ (fun b ρ1 G1 H1 hs St1 e1 => by
    cases b with
    | true => rw [if_pos rfl]; exact q true ρ1 G1 H1 (h1 _ hs) St1 e1
    | false => rw [if_neg (by simp)]; exact h2 _ hs _ _ _ _ _ St1 _ (fun b ρ2 G2 H2 hs2 St2 e2 => q b ρ2 G2 H2 hs2 St2 (e1.trans e2)) x) x
theorem set_and {S : Bool → List Sl → Prop} {tu : TT} {S1 : Bool → List Sl → Prop} (h : SemET K W tt ρ S1 X) (h1 : ∀ ρ', S1 false ρ' → S false ρ') (h2 : ∀ ρ', S1 true ρ' → SemET K W tu ρ' S X) : SemET K W (tAnd tt tu) ρ S X := fun G0 B0 σ G H St Q q x =>
  h _ _ _ _ _ St _ (fun b ρ1 G1 H1 hs St1 e1 => by
    cases b with
    | false => rw [if_neg (by simp)]; exact q false ρ1 G1 H1 (h1 _ hs) St1 e1
    | true => rw [if_pos rfl]; exact h2 _ hs _ _ _ _ _ St1 _ (fun b ρ2 G2 H2 hs2 St2 e2 => q b ρ2 G2 H2 hs2 St2 (e1.trans e2)) x) x
/-- a call of a built-in -/
theorem se_cb {r : List V → Hp → VK → Prop} (h : SemEA K W u ρ (fun ds ρ' => ∃ c, CallS K r ds c ∧ S c ρ') X) : SemE K W (tCB r u) ρ S X := fun G0 B0 σ G H St Q q x =>
  h _ _ _ _ _ St _ (fun ds vs ρ1 G1 H1 hs St1 e1 rv => by
    obtain ⟨c, hc, hs⟩ := hs
    exact hc vs G1 H1 St1.gr.s rv Q fun v G2 H2 g2 rv => q c v ρ1 G2 H2 hs (St1.grow g2) (e1.trans g2.g) rv) x
/-- calls of defs -/
theorem se_callN {D : List Dat → Prop} {R : List Dat → Out → Prop} {E : XK} (h : SemEA K W u ρ (fun ds ρ' => D ds ∧ ∀ o, R ds o → ∃ d, o = .val d ∧ S d ρ') X) : SemE K W (tCall (spN K D R) [] E u) ρ S X := fun G0 B0 σ G H St Q q x =>
  h _ _ _ _ _ St _ (fun ds vs ρ1 G1 H1 hs St1 e1 rv => by
    obtain ⟨hD, hR⟩ := hs
    refine ⟨G1, ds, St1.gr.s, by rw [List.append_nil]; exact rv, hD, fun d v G2 H2 h1 g2 r2 => ?_, fun C fs dd G2 H2 h1 g2 r2 => ?_, fun o v T G2 H2 h1 g2 r2 k2 => ?_⟩
    · obtain ⟨d', e, hs⟩ := hR _ h1
      cases e
      exact q _ _ _ _ _ hs (St1.grow g2) (e1.trans g2.g) r2
    · obtain ⟨d', e, hs⟩ := hR _ h1
      cases e
    · obtain ⟨d', e, hs⟩ := hR _ h1
      cases e) x
theorem se_callD {R : List Dat → Dat → Prop} {E : XK} (h : SemEA K W u ρ (fun ds ρ' => ∃ c, R ds c ∧ S c ρ') X) : SemE K W (tCall (spD K R) [] E u) ρ S X := fun G0 B0 σ G H St Q q x =>
  h _ _ _ _ _ St _ (fun ds vs ρ1 G1 H1 hs St1 e1 rv => by
    obtain ⟨c, hc, hs⟩ := hs
    exact ⟨G1, ds, c, St1.gr.s, by rw [List.append_nil]; exact rv, hc, fun v G2 H2 g2 rv => q c v ρ1 G2 H2 hs (St1.grow g2) (e1.trans g2.g) rv⟩) x
theorem se_callO0 {R : List Dat → Out → Prop} {E : XK} (h : SemEA K W u ρ (fun ds ρ' => ∃ c, R ds (.val c) ∧ S c ρ') X) : SemE K W (tCall (spO K R) [] E u) ρ S X := fun G0 B0 σ G H St Q q x =>
  h _ _ _ _ _ St _ (fun ds vs ρ1 G1 H1 hs St1 e1 rv => by
    obtain ⟨c, hc, hs⟩ := hs
    exact ⟨G1, ds, St1.gr.s, by rw [List.append_nil]; exact rv, .inl ⟨c, hc, fun v G2 H2 g2 rv => q c v ρ1 G2 H2 hs (St1.grow g2) (e1.trans g2.g) rv⟩⟩) x
/-- a call that may raise -/
theorem se_callX {D : List Dat → Prop} {R : List Dat → Out → Prop} (h : SemEA K W u ρ (fun ds ρ' => D ds ∧ (∀ d, R ds (.val d) → S d ρ') ∧ (∀ C fs, R ds (.exc C fs) → X C fs ρ') ∧ ∀ o, R ds (.mt o) → S (frz o) ρ') X) : SemE K W (tCallSD (spN K D R) [] (WE W) u) ρ S X := fun G0 B0 σ G H St Q q x =>
  h _ _ _ _ _ St _ (fun ds vs ρ1 G1 H1 hs St1 e1 rv => by
    obtain ⟨hD, h1, h2, h3⟩ := hs
    refine ⟨G1, ds, St1.gr.s, by rw [List.append_nil]; exact rv, hD, fun d v G2 H2 hr g2 r2 => q _ _ _ _ _ (h1 _ hr) (St1.grow g2) (e1.trans g2.g) r2, fun C fs dd G2 H2 hr g2 r2 => x _ _ _ _ _ _ (h2 _ _ hr) (St1.grow g2) r2, fun o v T G2 H2 hr g2 r2 k2 => ?_⟩
    have S2 := St1.grow g2
    have eg : Ex G2 (fun a => if a ∈ T then H2 a else G2 a) := fun a u hu => by
      by_cases z : a ∈ T
      · rw [(k2 a z).2] at hu; cases hu
      · show (if a ∈ T then H2 a else G2 a) = some u
        rw [if_neg z]; exact hu
    have es : Ex (fun a => if a ∈ T then H2 a else G2 a) H2 := fun a u hu => by
      have hu : (if a ∈ T then H2 a else G2 a) = some u := hu
      by_cases z : a ∈ T
      · rw [if_pos z] at hu; exact hu
      · rw [if_neg z] at hu; exact g2.s a u hu
    have g3 : Grow G1 H1 (fun a => if a ∈ T then H2 a else G2 a) H2 := ⟨g2.g.trans eg, es, g2.h, fun a z1 z2 => by
      show (if a ∈ T then H2 a else G2 a) = none
      rw [if_neg (fun z => z2 (k2 a z).1)]
      exact g2.m a z1 z2⟩
    exact q _ _ _ _ _ (h3 _ hr) (St1.grow g3) (e1.trans g3.g) (r2.frz eg fun a ha u hu => by
      show (if a ∈ T then H2 a else G2 a) = some u
      rw [if_pos ha]; exact hu)) x
/-! statements -/
theorem ss_asgE {g : TG} (h : SemE K W te ρ S X) (h1 : ∀ d ρ', S d ρ' → ∃ ρ2, SemG K g d ρ' ρ2 ∧ P.nx ρ2) (h2 : ∀ C fs ρ', X C fs ρ' → P.ex C fs ρ') : SemS K W (tAsg te g) ρ P := fun G0 B0 σ G H D St n r b ct x =>
  h _ _ _ _ _ St _ (fun d v ρ1 G1 H1 hs St1 e1 rv => by
    obtain ⟨ρ2, hg, hp⟩ := h1 _ _ hs
    exact hg _ _ _ _ _ _ St1 rv _ fun σ' S' => n _ _ _ _ hp S') fun C fs dd ρ' G' H' hx St' hd => x _ _ _ _ _ _ _ (h2 _ _ _ hx) St' hd
theorem ss_dropE (h : SemE K W te ρ S X) (h1 : ∀ d ρ', S d ρ' → P.nx ρ') (h2 : ∀ C fs ρ', X C fs ρ' → P.ex C fs ρ') : SemS K W (tDrop te) ρ P := fun G0 B0 σ G H D St n r b ct x =>
  h _ _ _ _ _ St _ (fun d v ρ1 G1 H1 hs St1 e1 rv => n _ _ _ _ (h1 _ _ hs) St1) fun C fs dd ρ' G' H' hx St' hd => x _ _ _ _ _ _ _ (h2 _ _ _ hx) St' hd
theorem ss_retE (h : SemE K W te ρ S X) (h1 : ∀ d ρ', S d ρ' → P.rt d ∨ P.rm d ρ') (h2 : ∀ C fs ρ', X C fs ρ' → P.ex C fs ρ') : SemS K W (tRet te) ρ P := fun G0 B0 σ G H D St n r b ct x =>
  h _ _ _ _ _ St _ (fun d v ρ1 G1 H1 hs St1 e1 rv => by
    rcases h1 _ _ hs with z | z
    · exact r.1 _ _ _ _ z St1.gr rv
    · exact r.2.2 _ _ _ _ _ _ z St1 rv) fun C fs dd ρ' G' H' hx St' hd => x _ _ _ _ _ _ _ (h2 _ _ _ hx) St' hd
theorem ss_ifE {u w : TS} {Sb : Bool → List Sl → Prop} (h : SemET K W tt ρ Sb X) (h1 : ∀ ρ', Sb true ρ' → SemS K W u ρ' P) (h2 : ∀ ρ', Sb false ρ' → SemS K W w ρ' P) (h3 : ∀ C fs ρ', X C fs ρ' → P.ex C fs ρ') : SemS K W (tIfS tt u w) ρ P := fun G0 B0 σ G H D St n r b ct x =>
  h _ _ _ _ _ St _ (fun k ρ1 G1 H1 hs St1 e1 => by
    have back : ∀ {ρ' σ' G' H'}, Sat K G0 B0 ρ' σ' G' H' → Sat K G0 B0 ρ' σ' G' H' := fun s => s
    cases k with
    | true => rw [if_pos rfl]; exact h1 _ hs _ _ _ _ _ _ St1 n r b ct x
    | false => rw [if_neg (by simp)]; exact h2 _ hs _ _ _ _ _ _ St1 n r b ct x) fun C fs dd ρ' G' H' hx St' hd => x _ _ _ _ _ _ _ (h3 _ _ _ hx) St' hd
end
end DL

set_option Elab.async false
set_option linter.all false
set_option maxRecDepth 100000
set_option maxHeartbeats 1000000
/-! DLn: comprehensions by properties -/
namespace DL
open PySem PySem.Spec PyProof.Rows L2
open Evl (Ex fresh_back)
section
variable {K : PySem.W.Frag} {G0 B0 G H : Hp} {ρ : List Sl} {σ : L2.St} {D : Addr} {o o' : HO}
theorem Sat.addBase (S : Sat K G0 B0 ρ σ G H) (hp : H D = none) (o : HO) : Sat K G0 (upd B0 D o) ρ σ G (upd H D o) := by
  obtain ⟨F, f1, f2⟩ := S.fp
  have gd : G D = none := fresh_back S.gr.s hp
  refine ⟨⟨S.gr.g, fun a u hu => ?_, fun a u hu => ?_, fun a h1 h2 => ?_⟩, S.len, S.dat, F, fun i q hq => ?_, f2⟩
  · rw [upd_ne (fun z => by rw [z, gd] at hu; cases hu)]; exact S.gr.s a u hu
  · by_cases z : a = D
    · subst z; rw [upd_same] at hu ⊢; exact hu
    · rw [upd_ne z] at hu ⊢; exact S.gr.h a u hu
  · by_cases z : a = D
    · subst z; exact gd
    · rw [upd_ne z] at h2; exact S.gr.m a h1 h2
  · obtain ⟨v, h1, h2, h3⟩ := f1 i q hq
    have ne : ∀ a ∈ F i, a ≠ D := fun a ha z => h2.there a ha (by rw [z]; exact hp)
    exact ⟨v, h1, h2.keep (Evl.Ex.refl _) fun a ha u hu => by rw [upd_ne (ne a ha)]; exact hu, fun a ha => ⟨(h3 a ha).1, by rw [upd_ne (ne a ha)]; exact (h3 a ha).2⟩⟩
theorem Sat.setBase (S : Sat K G0 (upd B0 D o) ρ σ G H) (hg : G0 D = none) (o' : HO) : Sat K G0 (upd B0 D o') ρ σ G (upd H D o') := by
  obtain ⟨F, f1, f2⟩ := S.fp
  have gd : G D = none := S.gr.m D hg (by rw [upd_same]; simp)
  refine ⟨⟨S.gr.g, fun a u hu => ?_, fun a u hu => ?_, fun a h1 h2 => ?_⟩, S.len, S.dat, F, fun i q hq => ?_, f2⟩
  · rw [upd_ne (fun z => by rw [z, gd] at hu; cases hu)]; exact S.gr.s a u hu
  · by_cases z : a = D
    · subst z; rw [upd_same] at hu ⊢; exact hu
    · rw [upd_ne z] at hu ⊢; exact S.gr.h a u (by rw [upd_ne z]; exact hu)
  · by_cases z : a = D
    · subst z; exact gd
    · rw [upd_ne z] at h2; exact S.gr.m a h1 (by rw [upd_ne z]; exact h2)
  · obtain ⟨v, h1, h2, h3⟩ := f1 i q hq
    have ne : ∀ a ∈ F i, a ≠ D := fun a ha z => by
      have := (h3 a ha).2
      rw [z, upd_same] at this
      cases this
    exact ⟨v, h1, h2.keep (Evl.Ex.refl _) fun a ha u hu => by rw [upd_ne (ne a ha)]; exact hu, fun a ha => ⟨(h3 a ha).1, by have := (h3 a ha).2; rw [upd_ne (ne a ha)] at this ⊢; exact this⟩⟩
theorem Sat.frzBase (S : Sat K G0 (upd B0 D o) ρ σ G H) (hg : G0 D = none) (hb : B0 D = none) : Sat K G0 B0 ρ σ (upd G D o) H ∧ Ex G (upd G D o) := by
  obtain ⟨F, f1, f2⟩ := S.fp
  have gd : G D = none := S.gr.m D hg (by rw [upd_same]; simp)
  have hd : H D = some o := S.gr.h D o upd_same
  have eg : Ex G (upd G D o) := Evl.Ex.new gd
  refine ⟨⟨⟨S.gr.g.trans eg, fun a u hu => ?_, fun a u hu => ?_, fun a h1 h2 => ?_⟩, S.len, fun i d h => ?_, F, fun i q hq => ?_, f2⟩, eg⟩
  · by_cases z : a = D
    · subst z; rw [upd_same] at hu; rw [hd]; exact hu
    · rw [upd_ne z] at hu; exact S.gr.s a u hu
  · exact S.gr.h a u (by rw [upd_ne (fun z => by rw [z, hb] at hu; cases hu)]; exact hu)
  · have z : a ≠ D := fun z => h2 (by rw [z]; exact hb)
    rw [upd_ne z]
    exact S.gr.m a h1 (by rw [upd_ne z]; exact h2)
  · obtain ⟨v, h1, h2⟩ := S.dat i d h
    exact ⟨v, h1, h2.mono eg⟩
  · obtain ⟨v, h1, h2, h3⟩ := f1 i q hq
    have ne : ∀ a ∈ F i, a ≠ D := fun a ha z => by
      have := (h3 a ha).2
      rw [z, upd_same] at this
      cases this
    exact ⟨v, h1, h2.keep eg fun a ha u hu => hu, fun a ha => ⟨by rw [upd_ne (ne a ha)]; exact (h3 a ha).1, by have := (h3 a ha).2; rw [upd_ne (ne a ha)] at this; exact this⟩⟩
/-- slots of which nothing is known may hold anything -/
theorem Sat.at_other {τ : L2.St} (S : Sat K G0 B0 ρ σ G H) (hl : τ.length = σ.length) (h : ∀ i : Nat, ρ[i]? ≠ some .no → i < ρ.length → τ[i]? = σ[i]?) : Sat K G0 B0 ρ τ G H := by
  obtain ⟨F, f1, f2⟩ := S.fp
  refine ⟨S.gr, by rw [hl]; exact S.len, fun i d hi => ?_, F, fun i q hi => ?_, f2⟩
  · obtain ⟨v, h1, h2⟩ := S.dat i d hi
    exact ⟨v, by rw [h i (by rw [hi]; simp) (List.getElem?_eq_some_iff.mp hi).1]; exact h1, h2⟩
  · obtain ⟨v, h1, h2⟩ := f1 i q hi
    exact ⟨v, by rw [h i (by rw [hi]; simp) (List.getElem?_eq_some_iff.mp hi).1]; exact h1, h2⟩
theorem wipeS_len (ρ : List Sl) : ∀ vs : List Nat, (wipeS ρ vs).length = ρ.length
  | [] => rfl
  | v :: vs => by show ((wipeS ρ vs).set v .no).length = _; rw [List.length_set, wipeS_len ρ vs]
theorem wipeS_no (ρ : List Sl) : ∀ (vs : List Nat) (i : Nat), i ∈ vs → i < ρ.length → (wipeS ρ vs)[i]? = some .no
  | v :: vs, i, h, hl => by
    show ((wipeS ρ vs).set v .no)[i]? = some .no
    by_cases e : v = i
    · subst e; rw [List.getElem?_set_self (by rw [wipeS_len]; exact hl)]
    · rw [List.getElem?_set_ne e]
      exact wipeS_no ρ vs i (by rcases List.mem_cons.mp h with z | z; · exact absurd z.symm e
                                · exact z) hl
theorem wipe_other (σ : L2.St) : ∀ (vs : List Nat) (i : Nat), i ∉ vs → (L2.wipe σ vs)[i]? = σ[i]?
  | [], _, _ => rfl
  | v :: vs, i, h => by
    show ((L2.wipe σ vs).set v none)[i]? = _
    rw [List.getElem?_set_ne (fun z => h (by rw [z]; exact .head _))]
    exact wipe_other σ vs i fun z => h (.tail _ z)
theorem Sat.unwipe {σ2 : L2.St} {vs : List Nat} (S : Sat K G0 B0 ρ σ2 G H) (hw : L2.wipe σ2 vs = L2.wipe σ vs) : Sat K G0 B0 (wipeS ρ vs) σ G H := by
  have S1 := S.wipe vs
  have el : σ.length = (L2.wipe σ2 vs).length := by rw [hw, wipe_length]
  refine S1.at_other el fun i h1 h2 => ?_
  have hi : i ∉ vs := fun z => h1 (wipeS_no ρ vs i z (by rw [wipeS_len] at h2; exact h2))
  rw [hw, wipe_other σ vs i hi]
end
section
variable {K : PySem.W.Frag} {W : WX} {ρ : List Sl} {te : TE} {tt : TT} {S : SP} {X : XP}
/-- [te for g in wi if tt] -/
theorem se_lc {α : Type} {wi : TI} {g : TG} {vs : List Nat} {enc : α → Dat} {xs : List α} (hi : SemI K wi ρ (xs.map enc)) (hz : xs.length ≤ sizeLine) (I : Nat → List Dat → List Sl → Prop) (h0 : I 0 [] (wipeS ρ vs))
    (hs : ∀ i x acc ρ1, xs[i]? = some x → acc.length ≤ i → I i acc ρ1 → ∃ ρ2, SemGv K g vs (enc x) (wipeS ρ1 vs) ρ2 ∧ SemET K W tt ρ2 (fun b ρ3 => (b = true → SemE K W te ρ3 (fun d ρ4 => I (i + 1) (acc ++ [d]) (wipeS ρ4 vs)) noX) ∧ (b = false → I (i + 1) acc (wipeS ρ3 vs))) noX)
    (hd : ∀ acc ρ1, I xs.length acc ρ1 → S (.lst acc) ρ1) : SemE K W (tLc wi g tt te vs) ρ S X := fun G0 B0 σ G H St Q q _ =>
  hi _ _ _ _ _ St _ fun J G1 H1 g1 Wk D hD => by
    have S1 := St.grow g1
    have hG0 : G0 D = none := fresh_back (S1.gr.g.trans S1.gr.s) hD
    have hB0 : B0 D = none := fresh_back S1.gr.h hD
    have hl : (xs.map enc).length = xs.length := List.length_map _
    have S2 : Sat K G0 (upd B0 D (.lst [])) (wipeS ρ vs) σ G1 (upd H1 D (.lst [])) := (S1.addBase hD (.lst [])).unwipe rfl
    refine ⟨fun i m H' => m = xs.length - i ∧ i ≤ xs.length ∧ ∃ G' ws acc ρ1, Ex G1 G' ∧ Sat K G0 (upd B0 D (.lst ws)) ρ1 σ G' H' ∧ DRs K G' ws acc ∧ acc.length ≤ i ∧ I i acc ρ1, ⟨xs.length, by omega, Nat.zero_le _, G1, [], [], _, Evl.Ex.refl _, S2, .nil, Nat.le_refl _, h0⟩, ?_⟩
    rintro i m H' ⟨rfl, hi', G', ws, acc, ρ1, e1, St1, r1, la, hI⟩
    by_cases hlt : i < xs.length
    · have hxi : xs[i]? = some xs[i] := List.getElem?_eq_getElem hlt
      have hd' : (xs.map enc)[i]? = some (enc xs[i]) := by rw [List.getElem?_map, hxi]; rfl
      obtain ⟨ρ2, hg, ht⟩ := hs i xs[i] acc ρ1 hxi la hI
      refine .inr ⟨Wk.go i G' H' e1 St1.gr.s (by rw [hl]; exact hlt), fun H'' => i + 1 ≤ xs.length ∧ ∃ G' ws acc ρ1, Ex G1 G' ∧ Sat K G0 (upd B0 D (.lst ws)) ρ1 σ G' H'' ∧ DRs K G' ws acc ∧ acc.length ≤ i + 1 ∧ I (i + 1) acc ρ1, fun H'' p => ⟨xs.length - (i + 1), by omega, rfl, p⟩, fun x H'' hy => ?_⟩
      obtain ⟨G3, g3, rx⟩ := Wk.yld i G' H' x H'' _ e1 St1.gr.s hd' hy
      have S3 := (St1.grow g3).wipe vs
      refine hg _ _ _ _ _ _ S3 rx _ fun σ2 S4 ew => ⟨by rw [ew, wipe_wipe], ht _ _ _ _ _ S4 _ (fun b ρ3 G4 H4 hb S5 e5 => ?_) fun _ _ _ _ _ _ z _ _ => z.elim⟩
      have ew2 : L2.wipe σ2 vs = L2.wipe σ vs := by rw [ew, wipe_wipe]
      cases b with
      | false =>
        rw [if_neg (by simp)]
        exact ⟨hlt, G4, ws, acc, _, (e1.trans g3.g).trans e5, S5.unwipe ew2, r1.mono (g3.g.trans e5), by omega, hb.2 rfl⟩
      | true =>
        rw [if_pos rfl]
        refine hb.1 rfl _ _ _ _ _ S5 _ (fun y v ρ4 G5 H5 hIy S6 e6 ry => ?_) fun _ _ _ _ _ _ z _ _ => z.elim
        have hD5 : H5 D = some (.lst ws) := S6.gr.h D _ upd_same
        have S7 : Sat K G0 (upd B0 D (.lst (ws ++ [v]))) (wipeS ρ4 vs) σ G5 (upd H5 D (.lst (ws ++ [v]))) := (S6.setBase hG0 (.lst (ws ++ [v]))).unwipe ew2
        refine ⟨ws, hD5, by rw [r1.length]; omega, hlt, G5, ws ++ [v], acc ++ [y], _, ((e1.trans g3.g).trans e5).trans e6, S7, (r1.mono ((g3.g.trans e5).trans e6)).append (.cons ry .nil), ?_, hIy⟩
        rw [List.length_append]
        simp only [List.length_cons, List.length_nil]
        omega
    · have ei : i = xs.length := by omega
      subst ei
      refine .inl ⟨Wk.stop _ G' H' e1 St1.gr.s (by rw [hl]; exact Nat.le_refl _), ?_⟩
      obtain ⟨S8, e8⟩ := St1.frzBase hG0 hB0
      exact q (.lst acc) (.ref D) ρ1 (upd G' D (.lst ws)) H' (hd _ _ hI) S8 ((g1.g.trans e1).trans e8) (.lst upd_same (r1.mono e8))
end
end DL

set_option Elab.async false
set_option linter.all false
set_option maxRecDepth 100000
namespace K23
open PySem PySem.Spec PyProof.Rows L2 DL
local macro_rules | `(tactic| walk_at "kitb") => `(tactic| first | exact kb_NoneType_str | exact kb_NoneType_bool | exact kb_NoneType_int | exact kb_NoneType_list | exact kb_NoneType_tuple | exact kb_NoneType_dict | exact kb_bool_str | exact kb_bool_bool | exact kb_bool_int | exact kb_bool_list | exact kb_bool_tuple | exact kb_bool_dict | exact kb_int_str | exact kb_int_bool | exact kb_int_int | exact kb_int_list | exact kb_int_tuple | exact kb_int_dict | exact kb_str_str | exact kb_str_bool | exact kb_str_int | exact kb_str_list | exact kb_str_tuple | exact kb_str_dict | exact kb_list_str | exact kb_list_bool | exact kb_list_int | exact kb_list_list | exact kb_list_tuple | exact kb_list_dict | exact kb_tuple_str | exact kb_tuple_bool | exact kb_tuple_int | exact kb_tuple_list | exact kb_tuple_tuple | exact kb_tuple_dict | exact kb_dict_str | exact kb_dict_bool | exact kb_dict_int | exact kb_dict_list | exact kb_dict_tuple | exact kb_dict_dict)
/-! the words that run a reading: "sem" an expression, "sems" arguments, "ops" an operation, "side" what is left -/
local macro_rules | `(tactic| walk_at "side") => `(tactic| first | assumption | decide | omega | (unfold sizeLine; omega) | (unfold sizeLine; simp only [List.length_map, List.length_append, List.length_cons, List.length_nil]; omega))
local macro_rules | `(tactic| walk_at "ops") => `(tactic| first
  | exact os_addI | exact os_sub | exact os_lt | exact os_le | exact os_gt | exact os_ge | exact os_eqI | exact os_neI | exact os_eqT | exact os_neT | exact os_eqB | exact os_neB
  | exact os_neNilS | exact os_eqNil | exact os_neNil | exact os_neScr | exact os_inC | exact os_notinC | exact os_inTT | exact os_in2 | exact os_in3 | exact os_notin2 | exact os_notinTT | exact os_inTL | exact os_notinTL | exact os_isN | exact os_isnotN | exact os_isB | exact os_isnotB
  | (apply os_mod; walk_at "side") | (apply os_div; walk_at "side") | (apply os_mul; walk_at "mul") | (apply os_addT; walk_at "side") | (apply os_addL; walk_at "side") | (apply os_addU; walk_at "side")
  | (apply os_ixL; walk_at "ix") | (apply os_ixU; walk_at "ix") | (apply os_ixT; (· walk_at "ix"); (· walk_at "side")) | (apply os_ixS; walk_at "ix"))
local macro_rules | `(tactic| walk_at "mul") => `(tactic| first | exact Or.inr ⟨by decide, by decide⟩ | exact Or.inl ⟨by decide, by decide⟩ | exact Or.inl ⟨by omega, by omega⟩ | exact Or.inr ⟨by omega, by omega⟩)
local macro_rules | `(tactic| walk_at "ix") => `(tactic| first | assumption | rfl)
local macro_rules | `(tactic| walk_at "calls") => `(tactic| first
  | (apply cs_lenT; walk_at "side") | exact cs_lenL | exact cs_lenU | exact cs_lenQ | exact cs_lenS | exact cs_sum | exact cs_allM | exact cs_all | exact cs_max2 | exact cs_min | (apply cs_tuple; rfl) | (apply cs_isiU; (· rfl); (· walk_at "kitb")) | exact cs_strT | (apply cs_strI; walk_at "side"))
local macro_rules | `(tactic| walk_at "sls") => `(tactic| first | (apply ss_txt; walk_at "side") | exact ss_lst | exact ss_tup)
local macro_rules | `(tactic| walk_at "part") => `(tactic| first | exact so_none | (apply so_some; walk_at "sem"))
local macro_rules | `(tactic| walk_at "sems") => `(tactic| first | exact sa_nil | (apply sa_cons; (· walk_at "sem"); (· walk_at "sems")))
local macro_rules | `(tactic| walk_at "iter") => `(tactic| first | (apply si_u; (· walk_at "sem"); (· rfl)) | (apply si_range1Z; (· walk_at "sems"); (· walk_at "side"); (· walk_at "side")))
local macro_rules | `(tactic| walk_at "mts") => `(tactic| first | (apply ms_strip; walk_at "side") | exact ms_starts3 | exact ms_find3 | (apply ms_joinM; walk_at "side") | (apply ms_join; walk_at "side") | (apply ms_split; (· walk_at "side"); (· walk_at "side")))
local macro_rules | `(tactic| walk_at "test") => `(tactic| first
  | exact st_yes | (apply st_and; (· walk_at "test"); (· (intro; walk_at "test"))) | (apply st_or; (· walk_at "test"); (· (intro; walk_at "test"))) | (apply st_not; walk_at "test")
  | (apply st_test; walk_at "sem") | (apply st_bl; walk_at "sem") | (apply st_tru; (· walk_at "sem"); (· first | exact trivial | walk_at "side")))
local macro_rules | `(tactic| walk_at "sem") => `(tactic| first
  | exact s_int | exact s_ty | exact s_str | exact s_bl | exact s_non | (apply s_var; rfl) | (apply s_c; assumption)
  | (apply s_op; (· walk_at "sem"); (· walk_at "sem"); (· walk_at "ops"))
  | (apply s_un; (· walk_at "sem"); (· exact us_neg))
  | (apply s_chain; (· walk_at "sem"); (· walk_at "sem"); (· walk_at "ops"); (· (intro; walk_at "sem")); (· (intro; walk_at "ops")))
  | (apply s_andB; (· walk_at "sem"); (· (intro; walk_at "sem")))
  | (apply s_orB; (· walk_at "sem"); (· (intro; walk_at "sem")))
  | (apply s_notB; walk_at "sem")
  | (apply s_if; (· walk_at "test"); (· (intro; walk_at "sem")); (· (intro; walk_at "sem")))
  | (apply s_tup; (· walk_at "sems"); (· walk_at "side"))
  | (apply s_lst; (· walk_at "sems"); (· walk_at "side"))
  | (apply s_cb; (· walk_at "sems"); (· walk_at "calls"))
  | (apply s_sl; (· walk_at "sem"); (· walk_at "part"); (· walk_at "part"); (· walk_at "sls"))
  | (apply s_m1; (· walk_at "sem"); (· walk_at "sem"); (· walk_at "mts"))
  | (apply s_call; (· walk_at "sems"); (· walk_at "fn")) | (apply s_callO0; (· walk_at "sems"); (· walk_at "fn")) | (apply s_callO; (· walk_at "sems"); (· walk_at "fn"))
  | (apply s_bmT; (· walk_at "sem"); (· walk_at "sems"); (· walk_at "mts"))
  | exact s_dnew
  | (apply s_ofN; apply sn_lcM; (· walk_at "iter"); (· walk_at "side"); (· (intro x hx; walk_at "sem")))
  | (apply s_ofN; apply sn_lcF; (· walk_at "iter"); (· walk_at "side"); (· (intro x hx; walk_at "test")); (· (intro x hx _; walk_at "sem"))))
def topS (i : Nat) : Stmt := PySem.Challenge.pw_readwright_k23_grammars_written.main.body.getD i (.Pass ⟨0, 0, 0, 0⟩)
/-! is_of: slots 0 text, 1 signs, 2 most, 3 sign -/
abbrev s_is_of : Stmt := topS 9
theorem sc_is_of : FnScope ["text", "signs", "most", "sign"] ["text", "signs", "most"] (defScope s_is_of) := ⟨rfl, rfl, rfl, by decide +kernel, rfl, by decide +kernel, by decide +kernel⟩
def T_is_of (K : PySem.W.Frag) : TS :=
  (tRet (tAndV (tChain uLe uLe (tC (.int 1)) (tCB (uLen K) (tCons (tVar 0) tNil)) (tVar 2)) (tCB (rAll K) (tCons (tLc (iU K (tVar 0)) (gName 3) tYes (tOp (uIn K) (tVar 3) (tVar 1)) [3]) tNil))))
theorem p_is_of {P : Program} {w : World} {K : PySem.W.Frag} {mg : Str → Option Value} {base : Heap} {f : Addr} {k : Nat} (mz_len : mg "len" = none) (mz_all : mg "all" = none) (cdv : Value) (A : Around) (outer : List Env) (s : Shared) (H : Hp) (E : XK)
    (hr : Room k (A.deeper (envOfC "is_of" (defScope s_is_of) s.heap.objs.size f cdv))) :
    PSs (cxOf CX0 P w K mg base ["text", "signs", "most", "sign"] "is_of" (defScope s_is_of) f cdv A outer s H E).nox (defBody s_is_of) (T_is_of K) :=
  (pss_one (ps_ret (pe_and (pe_chain ou_le ou_le pe_int (pe_callB (cu_len rfl) (by rfl) mz_len (by decide +kernel) (pa_cons (pv 0) pa_nil)) (pv 2)) (pe_one (pe_callB (cu_all rfl rfl) (by rfl) mz_all (by decide +kernel) (pa_cons (pe_lc (own := [("sign", 3)]) (g := (gName 3)) (tt := tYes) (te := (tOp (uIn K) (tVar 3) (tVar 1))) rfl sc_is_of.nd (pi_u rfl (pv 0)) (blkOk_by (own := [("sign", 3)]) (N := ["text", "signs", "most", "sign"]) (sc := defScope s_is_of) (by decide +kernel)) (fun _ _ _ _ _ => (pg_name (i := 3) sc_is_of.nd rfl (by first | exact Or.inl rfl | exact Or.inr rfl))) (fun _ _ _ _ _ => pts_nil) (fun _ _ _ _ _ => (pe_cmpR (ou_in rfl (room65 hr)) (pv 3) (pv 1) (by rfl)))) pa_nil))))))
/-! is_fixed: slots 0 thing -/
abbrev s_is_fixed : Stmt := topS 10
theorem sc_is_fixed : FnScope ["thing"] ["thing"] (defScope s_is_fixed) := ⟨rfl, rfl, rfl, by decide +kernel, rfl, by decide +kernel, by decide +kernel⟩
def T_is_fixed (K : PySem.W.Frag) (sp_is_of : Sp) (g_LETTERS : V) (g_MOST_LETTERS_words : V) (g_SIGNS : V) (g_MOST_SIGNS : V) : TS :=
  (tRet (tAndV (tCB (uIsi K) (tCons (tVar 0) (tCons (tC (.ty "str")) tNil))) (tOrV (tCall sp_is_of [] E0 (tCons (tVar 0) (tCons (tC g_LETTERS) (tCons (tC g_MOST_LETTERS_words) tNil)))) (tCall sp_is_of [] E0 (tCons (tVar 0) (tCons (tC g_SIGNS) (tCons (tC g_MOST_SIGNS) tNil)))))))
theorem p_is_fixed {P : Program} {w : World} {K : PySem.W.Frag} {mg : Str → Option Value} {base : Heap} {f : Addr} {k : Nat} {sp_is_of : Sp} (gd_is_of : GD P w K mg base k "is_of" ["text", "signs", "most"] sp_is_of) {g_LETTERS : V} {u_LETTERS : Value} (mg_LETTERS : mg "LETTERS" = some u_LETTERS) (rv_LETTERS : RelV g_LETTERS u_LETTERS) {g_MOST_LETTERS_words : V} {u_MOST_LETTERS_words : Value} (mg_MOST_LETTERS_words : mg "MOST_LETTERS_words" = some u_MOST_LETTERS_words) (rv_MOST_LETTERS_words : RelV g_MOST_LETTERS_words u_MOST_LETTERS_words) {g_SIGNS : V} {u_SIGNS : Value} (mg_SIGNS : mg "SIGNS" = some u_SIGNS) (rv_SIGNS : RelV g_SIGNS u_SIGNS) {g_MOST_SIGNS : V} {u_MOST_SIGNS : Value} (mg_MOST_SIGNS : mg "MOST_SIGNS" = some u_MOST_SIGNS) (rv_MOST_SIGNS : RelV g_MOST_SIGNS u_MOST_SIGNS) (mz_isinstance : mg "isinstance" = none) (mz_str : mg "str" = none) (cdv : Value) (A : Around) (outer : List Env) (s : Shared) (H : Hp) (E : XK)
    (hr : Room k (A.deeper (envOfC "is_fixed" (defScope s_is_fixed) s.heap.objs.size f cdv))) :
    PSs (cxOf CX0 P w K mg base ["thing"] "is_fixed" (defScope s_is_fixed) f cdv A outer s H E).nox (defBody s_is_fixed) (T_is_fixed K sp_is_of g_LETTERS g_MOST_LETTERS_words g_SIGNS g_MOST_SIGNS) :=
  (pss_one (ps_ret (pe_and (pe_callB (cu_isiU rfl) (by rfl) mz_isinstance (by decide +kernel) (pa_cons (pv 0) (pa_cons (pe_bltn (v := .ty "str") (by rfl) mz_str (by decide +kernel) rfl) pa_nil))) (pe_one (pe_or (pe_gd gd_is_of hr (by rfl) (pa_cons (pv 0) (pa_cons (pe_glob (by rfl) mg_LETTERS rv_LETTERS) (pa_cons (pe_glob (by rfl) mg_MOST_LETTERS_words rv_MOST_LETTERS_words) pa_nil)))) (pe_one (pe_gd gd_is_of hr (by rfl) (pa_cons (pv 0) (pa_cons (pe_glob (by rfl) mg_SIGNS rv_SIGNS) (pa_cons (pe_glob (by rfl) mg_MOST_SIGNS rv_MOST_SIGNS) pa_nil))))))))))
/-! is_kind: slots 0 thing -/
abbrev s_is_kind : Stmt := topS 11
theorem sc_is_kind : FnScope ["thing"] ["thing"] (defScope s_is_kind) := ⟨rfl, rfl, rfl, by decide +kernel, rfl, by decide +kernel, by decide +kernel⟩
def T_is_kind (K : PySem.W.Frag) (sp_is_fixed : Sp) (g_OPEN : V) : TS :=
  (tSeq (tIfS (tNot (tTru K (tCB (uIsi K) (tCons (tVar 0) (tCons (tC (.ty "str")) tNil))))) (tRet (tC (.bl false))) tNext)
  (tRet (tOrV (tOp (uIn K) (tVar 0) (tC g_OPEN)) (tAndV (tOp (uEq K) (tSl (uSl K) (tVar 0) tNoPart (tPart (tC (.int 1)))) (tC (.str (Str.ofString "'")))) (tCall sp_is_fixed [] E0 (tCons (tSl (uSl K) (tVar 0) (tPart (tC (.int 1))) tNoPart) tNil))))))
theorem p_is_kind {P : Program} {w : World} {K : PySem.W.Frag} {mg : Str → Option Value} {base : Heap} {f : Addr} {k : Nat} {sp_is_fixed : Sp} (gd_is_fixed : GD P w K mg base k "is_fixed" ["thing"] sp_is_fixed) {g_OPEN : V} {u_OPEN : Value} (mg_OPEN : mg "OPEN" = some u_OPEN) (rv_OPEN : RelV g_OPEN u_OPEN) (mz_isinstance : mg "isinstance" = none) (mz_str : mg "str" = none) (cdv : Value) (A : Around) (outer : List Env) (s : Shared) (H : Hp) (E : XK)
    (hr : Room k (A.deeper (envOfC "is_kind" (defScope s_is_kind) s.heap.objs.size f cdv))) :
    PSs (cxOf CX0 P w K mg base ["thing"] "is_kind" (defScope s_is_kind) f cdv A outer s H E).nox (defBody s_is_kind) (T_is_kind K sp_is_fixed g_OPEN) :=
  (pss_cons (ps_if (pt_not (pt_any rfl (pe_callB (cu_isiU rfl) (by rfl) mz_isinstance (by decide +kernel) (pa_cons (pv 0) (pa_cons (pe_bltn (v := .ty "str") (by rfl) mz_str (by decide +kernel) rfl) pa_nil))))) (pss_one (ps_ret pe_bl)) pss_nil)
  (pss_one (ps_ret (pe_or (pe_cmpR (ou_in rfl (room65 hr)) (pv 0) (pe_glob (by rfl) mg_OPEN rv_OPEN) (by rfl)) (pe_one (pe_and (pe_cmpR (ou_eq rfl (room64 hr)) (pe_slice (ou_sl rfl) (pv 0) po_none (po_some pe_int)) pe_str (nomark _)) (pe_one (pe_gd gd_is_fixed hr (by rfl) (pa_cons (pe_slice (ou_sl rfl) (pv 0) (po_some pe_int) po_none) pa_nil)))))))))
/-! fixed_of: slots 0 kind -/
abbrev s_fixed_of : Stmt := topS 12
theorem sc_fixed_of : FnScope ["kind"] ["kind"] (defScope s_fixed_of) := ⟨rfl, rfl, rfl, by decide +kernel, rfl, by decide +kernel, by decide +kernel⟩
def T_fixed_of (K : PySem.W.Frag) (g_OPEN : V) : TS :=
  (tRet (tIf (tTest (tOp (uIn K) (tVar 0) (tC g_OPEN))) (tC .non) (tSl (uSl K) (tVar 0) (tPart (tC (.int 1))) tNoPart)))
theorem p_fixed_of {P : Program} {w : World} {K : PySem.W.Frag} {mg : Str → Option Value} {base : Heap} {f : Addr} {k : Nat} {g_OPEN : V} {u_OPEN : Value} (mg_OPEN : mg "OPEN" = some u_OPEN) (rv_OPEN : RelV g_OPEN u_OPEN) (cdv : Value) (A : Around) (outer : List Env) (s : Shared) (H : Hp) (E : XK)
    (hr : Room k (A.deeper (envOfC "fixed_of" (defScope s_fixed_of) s.heap.objs.size f cdv))) :
    PSs (cxOf CX0 P w K mg base ["kind"] "fixed_of" (defScope s_fixed_of) f cdv A outer s H E).nox (defBody s_fixed_of) (T_fixed_of K g_OPEN) :=
  (pss_one (ps_ret (pe_ifExp (pt_cmpR (ou_in rfl (room65 hr)) (pv 0) (pe_glob (by rfl) mg_OPEN rv_OPEN) (by rfl)) pe_non (pe_slice (ou_sl rfl) (pv 0) (po_some pe_int) po_none))))
/-! is_name: slots 0 text -/
abbrev s_is_name : Stmt := topS 16
theorem sc_is_name : FnScope ["text"] ["text"] (defScope s_is_name) := ⟨rfl, rfl, rfl, by decide +kernel, rfl, by decide +kernel, by decide +kernel⟩
def T_is_name (K : PySem.W.Frag) (sp_is_of : Sp) (g_LETTERS : V) (g_MOST_LETTERS_items : V) (g_KEPT : V) : TS :=
  (tRet (tAndV (tCall sp_is_of [] E0 (tCons (tVar 0) (tCons (tC g_LETTERS) (tCons (tC g_MOST_LETTERS_items) tNil)))) (tOp (uNotIn K) (tVar 0) (tC g_KEPT))))
theorem p_is_name {P : Program} {w : World} {K : PySem.W.Frag} {mg : Str → Option Value} {base : Heap} {f : Addr} {k : Nat} {sp_is_of : Sp} (gd_is_of : GD P w K mg base k "is_of" ["text", "signs", "most"] sp_is_of) {g_LETTERS : V} {u_LETTERS : Value} (mg_LETTERS : mg "LETTERS" = some u_LETTERS) (rv_LETTERS : RelV g_LETTERS u_LETTERS) {g_MOST_LETTERS_items : V} {u_MOST_LETTERS_items : Value} (mg_MOST_LETTERS_items : mg "MOST_LETTERS_items" = some u_MOST_LETTERS_items) (rv_MOST_LETTERS_items : RelV g_MOST_LETTERS_items u_MOST_LETTERS_items) {g_KEPT : V} {u_KEPT : Value} (mg_KEPT : mg "KEPT" = some u_KEPT) (rv_KEPT : RelV g_KEPT u_KEPT) (cdv : Value) (A : Around) (outer : List Env) (s : Shared) (H : Hp) (E : XK)
    (hr : Room k (A.deeper (envOfC "is_name" (defScope s_is_name) s.heap.objs.size f cdv))) :
    PSs (cxOf CX0 P w K mg base ["text"] "is_name" (defScope s_is_name) f cdv A outer s H E).nox (defBody s_is_name) (T_is_name K sp_is_of g_LETTERS g_MOST_LETTERS_items g_KEPT) :=
  (pss_one (ps_ret (pe_and (pe_gd gd_is_of hr (by rfl) (pa_cons (pv 0) (pa_cons (pe_glob (by rfl) mg_LETTERS rv_LETTERS) (pa_cons (pe_glob (by rfl) mg_MOST_LETTERS_items rv_MOST_LETTERS_items) pa_nil)))) (pe_one (pe_cmpR (ou_notin rfl (room65 hr)) (pv 0) (pe_glob (by rfl) mg_KEPT rv_KEPT) (by rfl))))))
/-! need_name: slots 0 text -/
abbrev s_need_name : Stmt := topS 17
theorem sc_need_name : FnScope ["text"] ["text"] (defScope s_need_name) := ⟨rfl, rfl, rfl, by decide +kernel, rfl, by decide +kernel, by decide +kernel⟩
def T_need_name (K : PySem.W.Frag) (sp_is_name : Sp) (x_NoGrammar : Addr) (W : WX) : TS :=
  (tIfS (tNot (tTru K (tCall sp_is_name [] E0 (tCons (tVar 0) tNil)))) (tRaisE (tMk0 x_NoGrammar) W) tNext)
theorem p_need_name {P : Program} {w : World} {K : PySem.W.Frag} {mg : Str → Option Value} {base : Heap} {f : Addr} {k : Nat} {sp_is_name : Sp} (gd_is_name : GD P w K mg base k "is_name" ["text"] sp_is_name) {x_NoGrammar : Addr} (x0_NoGrammar : X0 K mg "NoGrammar" x_NoGrammar) (cdv : Value) (A : Around) (outer : List Env) (s : Shared) (H : Hp) (E : XK)
    (hr : Room k (A.deeper (envOfC "need_name" (defScope s_need_name) s.heap.objs.size f cdv))) :
    PSs (cxOf (L2.CX P w) P w K mg base ["text"] "need_name" (defScope s_need_name) f cdv A outer s H E) (defBody s_need_name) (T_need_name K sp_is_name x_NoGrammar (fun cls d _ H => E cls d H)) :=
  (pss_one (ps_if (pt_not (pt_any rfl (pe_gd gd_is_name hr (by rfl) (pa_cons (pv 0) pa_nil)))) (pss_one (ps_raise rfl (takes_of rfl rfl rfl rfl) (pmk_x0 x0_NoGrammar (by rfl)))) pss_nil))
/-! quoted: slots 0 word -/
abbrev s_quoted : Stmt := topS 18
theorem sc_quoted : FnScope ["word"] ["word"] (defScope s_quoted) := ⟨rfl, rfl, rfl, by decide +kernel, rfl, by decide +kernel, by decide +kernel⟩
def T_quoted (K : PySem.W.Frag) : TS :=
  (tRet (tOp (uAdd K) (tOp (uAdd K) (tC (.str (Str.ofString "'"))) (tVar 0)) (tC (.str (Str.ofString "'")))))
theorem p_quoted {P : Program} {w : World} {K : PySem.W.Frag} {mg : Str → Option Value} {base : Heap} {f : Addr} {k : Nat} (cdv : Value) (A : Around) (outer : List Env) (s : Shared) (H : Hp) (E : XK)
    (hr : Room k (A.deeper (envOfC "quoted" (defScope s_quoted) s.heap.objs.size f cdv))) :
    PSs (cxOf CX0 P w K mg base ["word"] "quoted" (defScope s_quoted) f cdv A outer s H E).nox (defBody s_quoted) (T_quoted K) :=
  (pss_one (ps_ret (pe_op (ou_add rfl) (pe_op (ou_add rfl) pe_str (pv 0)) pe_str)))
/-! need_inner: slots 0 items, 1 item -/
abbrev s_need_inner : Stmt := topS 22
theorem sc_need_inner : FnScope ["items", "item"] ["items"] (defScope s_need_inner) := ⟨rfl, rfl, rfl, by decide +kernel, rfl, by decide +kernel, by decide +kernel⟩
def T_need_inner (K : PySem.W.Frag) (x_Part : Addr) (x_Word : Addr) (x_NoGrammar : Addr) (W : WX) : TS :=
  (tIfS (tOr (tTest (tOp (uEq K) (tCB (uLen K) (tCons (tVar 0) tNil)) (tC (.int 0)))) (tNot (tTru K (tCB (rAll K) (tCons (tLc (iU K (tVar 0)) (gName 1) tYes (tCB (uIsi K) (tCons (tVar 1) (tCons (tTup (tCons (tC (.ref x_Part)) (tCons (tC (.ref x_Word)) tNil))) tNil))) [1]) tNil))))) (tRaisE (tMk0 x_NoGrammar) W) tNext)
theorem p_need_inner {P : Program} {w : World} {K : PySem.W.Frag} {mg : Str → Option Value} {base : Heap} {f : Addr} {k : Nat} {x_Part : Addr} {x_Word : Addr} {x_NoGrammar : Addr} (mg_Part : mg "Part" = some (.ref x_Part)) (mg_Word : mg "Word" = some (.ref x_Word)) (x0_NoGrammar : X0 K mg "NoGrammar" x_NoGrammar) (mz_len : mg "len" = none) (mz_all : mg "all" = none) (mz_isinstance : mg "isinstance" = none) (cdv : Value) (A : Around) (outer : List Env) (s : Shared) (H : Hp) (E : XK)
    (hr : Room k (A.deeper (envOfC "need_inner" (defScope s_need_inner) s.heap.objs.size f cdv))) :
    PSs (cxOf (L2.CX P w) P w K mg base ["items", "item"] "need_inner" (defScope s_need_inner) f cdv A outer s H E) (defBody s_need_inner) (T_need_inner K x_Part x_Word x_NoGrammar (fun cls d _ H => E cls d H)) :=
  (pss_one (ps_if (PW.pt (pw_or (pt_cmpR (ou_eq rfl (room64 hr)) (pe_callB (cu_len rfl) (by rfl) mz_len (by decide +kernel) (pa_cons (pv 0) pa_nil)) pe_int (nomark _)) (pw_or1 (pt_not (pt_any rfl (pe_callB (cu_all rfl rfl) (by rfl) mz_all (by decide +kernel) (pa_cons (pe_lc (own := [("item", 1)]) (g := (gName 1)) (tt := tYes) (te := (tCB (uIsi K) (tCons (tVar 1) (tCons (tTup (tCons (tC (.ref x_Part)) (tCons (tC (.ref x_Word)) tNil))) tNil)))) rfl sc_need_inner.nd (pi_u rfl (pv 0)) (blkOk_by (own := [("item", 1)]) (N := ["items", "item"]) (sc := defScope s_need_inner) (by decide +kernel)) (fun _ _ _ _ _ => (pg_name (i := 1) sc_need_inner.nd rfl (by first | exact Or.inl rfl | exact Or.inr rfl))) (fun _ _ _ _ _ => pts_nil) (fun _ _ _ _ _ => (pe_callB (cu_isiU rfl) (by rfl) mz_isinstance (by decide +kernel) (pa_cons (pv 1) (pa_cons (pe_tup (pa_cons (pe_glob (by rfl) mg_Part rfl) (pa_cons (pe_glob (by rfl) mg_Word rfl) pa_nil))) pa_nil))))) pa_nil))))))) (pss_one (ps_raise rfl (takes_of rfl rfl rfl rfl) (pmk_x0 x0_NoGrammar (by rfl)))) pss_nil))
/-! all_texts: slots 0 items, 1 item -/
abbrev s_all_texts : Stmt := topS 23
theorem sc_all_texts : FnScope ["items", "item"] ["items"] (defScope s_all_texts) := ⟨rfl, rfl, rfl, by decide +kernel, rfl, by decide +kernel, by decide +kernel⟩
def T_all_texts (K : PySem.W.Frag) (ms_text : List (Addr × Sp)) : TS :=
  (tRet (tM1 (uJoin K) (tC (.str (Str.ofString " "))) (tLc (iU K (tVar 0)) (gName 1) tYes (tMu ms_text "text" (fun _ => E0) (tVar 1) tNil) [1])))
theorem p_all_texts {P : Program} {w : World} {K : PySem.W.Frag} {mg : Str → Option Value} {base : Heap} {f : Addr} {k : Nat} {ms_text : List (Addr × Sp)} (md_text : MDs P w K mg base k "text" ms_text) (cdv : Value) (A : Around) (outer : List Env) (s : Shared) (H : Hp) (E : XK)
    (hr : Room k (A.deeper (envOfC "all_texts" (defScope s_all_texts) s.heap.objs.size f cdv))) :
    PSs (cxOf CX0 P w K mg base ["items", "item"] "all_texts" (defScope s_all_texts) f cdv A outer s H E).nox (defBody s_all_texts) (T_all_texts K ms_text) :=
  (pss_one (ps_ret (pe_ujoin rfl pe_str (pe_lc (own := [("item", 1)]) (g := (gName 1)) (tt := tYes) (te := (tMu ms_text "text" (fun _ => E0) (tVar 1) tNil)) rfl sc_all_texts.nd (pi_u rfl (pv 0)) (blkOk_by (own := [("item", 1)]) (N := ["items", "item"]) (sc := defScope s_all_texts) (by decide +kernel)) (fun _ _ _ _ _ => (pg_name (i := 1) sc_all_texts.nd rfl (by first | exact Or.inl rfl | exact Or.inr rfl))) (fun _ _ _ _ _ => pts_nil) (fun _ _ _ _ _ => (pe_mu0 md_text (fun σ => passL0 σ) hr (pv 1)))))))
/-! need: slots 0 good -/
abbrev s_need : Stmt := topS 34
theorem sc_need : FnScope ["good"] ["good"] (defScope s_need) := ⟨rfl, rfl, rfl, by decide +kernel, rfl, by decide +kernel, by decide +kernel⟩
def T_need (K : PySem.W.Frag) (x_NoGrammar : Addr) (W : WX) : TS :=
  (tIfS (tNot (tTru K (tVar 0))) (tRaisE (tMk0 x_NoGrammar) W) tNext)
theorem p_need {P : Program} {w : World} {K : PySem.W.Frag} {mg : Str → Option Value} {base : Heap} {f : Addr} {k : Nat} {x_NoGrammar : Addr} (x0_NoGrammar : X0 K mg "NoGrammar" x_NoGrammar) (cdv : Value) (A : Around) (outer : List Env) (s : Shared) (H : Hp) (E : XK)
    (hr : Room k (A.deeper (envOfC "need" (defScope s_need) s.heap.objs.size f cdv))) :
    PSs (cxOf (L2.CX P w) P w K mg base ["good"] "need" (defScope s_need) f cdv A outer s H E) (defBody s_need) (T_need K x_NoGrammar (fun cls d _ H => E cls d H)) :=
  (pss_one (ps_if (pt_not (pt_any rfl (pv 0))) (pss_one (ps_raise rfl (takes_of rfl rfl rfl rfl) (pmk_x0 x0_NoGrammar (by rfl)))) pss_nil))
/-! need_level: slots 0 way, 1 words, 2 word -/
abbrev s_need_level : Stmt := topS 36
theorem sc_need_level : FnScope ["way", "words", "word"] ["way", "words"] (defScope s_need_level) := ⟨rfl, rfl, rfl, by decide +kernel, rfl, by decide +kernel, by decide +kernel⟩
def T_need_level (K : PySem.W.Frag) (sp_need : Sp) (sp_is_fixed : Sp) (g_WAYS : V) (g_MOST_WORDS : V) (W : WX) : TS :=
  (tSeq (tDrop (tCallSD sp_need [] (WE W) (tCons (tAndV (tOp (uIn K) (tVar 0) (tC g_WAYS)) (tChain uLe uLe (tC (.int 1)) (tCB (uLen K) (tCons (tVar 1) tNil)) (tC g_MOST_WORDS))) tNil)))
  (tDrop (tCallSD sp_need [] (WE W) (tCons (tCB (rAll K) (tCons (tLc (iU K (tVar 1)) (gName 2) tYes (tCall sp_is_fixed [] E0 (tCons (tVar 2) tNil)) [2]) tNil)) tNil))))
theorem p_need_level {P : Program} {w : World} {K : PySem.W.Frag} {mg : Str → Option Value} {base : Heap} {f : Addr} {k : Nat} {sp_need : Sp} (gd_need : GX P w K mg base k "need" ["good"] sp_need) {sp_is_fixed : Sp} (gd_is_fixed : GD P w K mg base k "is_fixed" ["thing"] sp_is_fixed) {g_WAYS : V} {u_WAYS : Value} (mg_WAYS : mg "WAYS" = some u_WAYS) (rv_WAYS : RelV g_WAYS u_WAYS) {g_MOST_WORDS : V} {u_MOST_WORDS : Value} (mg_MOST_WORDS : mg "MOST_WORDS" = some u_MOST_WORDS) (rv_MOST_WORDS : RelV g_MOST_WORDS u_MOST_WORDS) (mz_len : mg "len" = none) (mz_all : mg "all" = none) (cdv : Value) (A : Around) (outer : List Env) (s : Shared) (H : Hp) (E : XK)
    (hr : Room k (A.deeper (envOfC "need_level" (defScope s_need_level) s.heap.objs.size f cdv))) :
    PSs (cxOf (L2.CX P w) P w K mg base ["way", "words", "word"] "need_level" (defScope s_need_level) f cdv A outer s H E) (defBody s_need_level) (T_need_level K sp_need sp_is_fixed g_WAYS g_MOST_WORDS (fun cls d _ H => E cls d H)) :=
  (pss_cons (ps_expr (pe_gx gd_need (takes_of rfl rfl rfl rfl) hr (by rfl) (pa_cons (pe_and (pe_cmpR (ou_in rfl (room65 hr)) (pv 0) (pe_glob (by rfl) mg_WAYS rv_WAYS) (by rfl)) (pe_one (pe_chain ou_le ou_le pe_int (pe_callB (cu_len rfl) (by rfl) mz_len (by decide +kernel) (pa_cons (pv 1) pa_nil)) (pe_glob (by rfl) mg_MOST_WORDS rv_MOST_WORDS)))) pa_nil)))
  (pss_one (ps_expr (pe_gx gd_need (takes_of rfl rfl rfl rfl) hr (by rfl) (pa_cons (pe_callB (cu_all rfl rfl) (by rfl) mz_all (by decide +kernel) (pa_cons (pe_lc (own := [("word", 2)]) (g := (gName 2)) (tt := tYes) (te := (tCall sp_is_fixed [] E0 (tCons (tVar 2) tNil))) rfl sc_need_level.nd (pi_u rfl (pv 1)) (blkOk_by (own := [("word", 2)]) (N := ["way", "words", "word"]) (sc := defScope s_need_level) (by decide +kernel)) (fun _ _ _ _ _ => (pg_name (i := 2) sc_need_level.nd rfl (by first | exact Or.inl rfl | exact Or.inr rfl))) (fun _ _ _ _ _ => pts_nil) (fun _ _ _ _ _ => (pe_gd gd_is_fixed hr (by rfl) (pa_cons (pv 2) pa_nil)))) pa_nil)) pa_nil)))))
/-! place_of: slots 0 way -/
abbrev s_place_of : Stmt := topS 37
theorem sc_place_of : FnScope ["way"] ["way"] (defScope s_place_of) := ⟨rfl, rfl, rfl, by decide +kernel, rfl, by decide +kernel, by decide +kernel⟩
def T_place_of (K : PySem.W.Frag) (g_BETWEEN : V) : TS :=
  (tRet (tIf (tTest (tOp (uIn K) (tVar 0) (tC g_BETWEEN))) (tC (.str (Str.ofString "between"))) (tVar 0)))
theorem p_place_of {P : Program} {w : World} {K : PySem.W.Frag} {mg : Str → Option Value} {base : Heap} {f : Addr} {k : Nat} {g_BETWEEN : V} {u_BETWEEN : Value} (mg_BETWEEN : mg "BETWEEN" = some u_BETWEEN) (rv_BETWEEN : RelV g_BETWEEN u_BETWEEN) (cdv : Value) (A : Around) (outer : List Env) (s : Shared) (H : Hp) (E : XK)
    (hr : Room k (A.deeper (envOfC "place_of" (defScope s_place_of) s.heap.objs.size f cdv))) :
    PSs (cxOf CX0 P w K mg base ["way"] "place_of" (defScope s_place_of) f cdv A outer s H E).nox (defBody s_place_of) (T_place_of K g_BETWEEN) :=
  (pss_one (ps_ret (pe_ifExp (pt_cmpR (ou_in rfl (room65 hr)) (pv 0) (pe_glob (by rfl) mg_BETWEEN rv_BETWEEN) (by rfl)) pe_str (pv 0))))
/-! choice_text: slots 0 choice, 1 item -/
abbrev s_choice_text : Stmt := topS 41
theorem sc_choice_text : FnScope ["choice", "item"] ["choice"] (defScope s_choice_text) := ⟨rfl, rfl, rfl, by decide +kernel, rfl, by decide +kernel, by decide +kernel⟩
def T_choice_text (K : PySem.W.Frag) (ms_text : List (Addr × Sp)) : TS :=
  (tRet (tM1 (uJoin K) (tC (.str (Str.ofString " "))) (tOp (uAdd K) (tLst (tCons (tAt K "part" (tVar 0)) (tCons (tAt K "label" (tVar 0)) (tCons (tC (.str (Str.ofString "="))) tNil)))) (tLc (iU K (tAt K "things" (tVar 0))) (gName 1) tYes (tMu ms_text "text" (fun _ => E0) (tVar 1) tNil) [1]))))
theorem p_choice_text {P : Program} {w : World} {K : PySem.W.Frag} {mg : Str → Option Value} {base : Heap} {f : Addr} {k : Nat} {ms_text : List (Addr × Sp)} (md_text : MDs P w K mg base k "text" ms_text) (cdv : Value) (A : Around) (outer : List Env) (s : Shared) (H : Hp) (E : XK)
    (hr : Room k (A.deeper (envOfC "choice_text" (defScope s_choice_text) s.heap.objs.size f cdv))) :
    PSs (cxOf CX0 P w K mg base ["choice", "item"] "choice_text" (defScope s_choice_text) f cdv A outer s H E).nox (defBody s_choice_text) (T_choice_text K ms_text) :=
  (pss_one (ps_ret (pe_ujoin rfl pe_str (pe_op (ou_add rfl) (pe_lst (pa_cons (pe_at rfl (pv 0)) (pa_cons (pe_at rfl (pv 0)) (pa_cons pe_str pa_nil)))) (pe_lc (own := [("item", 1)]) (g := (gName 1)) (tt := tYes) (te := (tMu ms_text "text" (fun _ => E0) (tVar 1) tNil)) rfl sc_choice_text.nd (pi_u rfl (pe_at rfl (pv 0))) (blkOk_by (own := [("item", 1)]) (N := ["choice", "item"]) (sc := defScope s_choice_text) (by decide +kernel)) (fun _ _ _ _ _ => (pg_name (i := 1) sc_choice_text.nd rfl (by first | exact Or.inl rfl | exact Or.inr rfl))) (fun _ _ _ _ _ => pts_nil) (fun _ _ _ _ _ => (pe_mu0 md_text (fun σ => passL0 σ) hr (pv 1))))))))
/-! joins_text: slots 0 one, 1 rows, 2 way, 3 words, 4 word -/
abbrev s_joins_text : Stmt := topS 42
theorem sc_joins_text : FnScope ["one", "rows", "way", "words", "word"] ["one"] (defScope s_joins_text) := ⟨rfl, rfl, rfl, by decide +kernel, rfl, by decide +kernel, by decide +kernel⟩
def T_joins_text (K : PySem.W.Frag) (sp_quoted : Sp) : TS :=
  (tSeq (tAsg (tLst (tCons (tM1 (uJoin K) (tC (.str (Str.ofString " "))) (tOp (uAdd K) (tLst (tCons (tAt K "part" (tVar 0)) (tCons (tC (.str (Str.ofString "joins"))) (tCons (tAt K "of" (tVar 0)) (tCons (tC (.str (Str.ofString "in"))) tNil))))) (tLc (iU K (tAt K "brackets" (tVar 0))) (gName 4) tYes (tCall sp_quoted [] E0 (tCons (tVar 4) tNil)) [4]))) tNil)) (gName 1))
  (tSeq (tFor (iU K (tAt K "levels" (tVar 0))) (gTup K 2 (gCons (gName 2) (gCons (gName 3) gNil))) (tDrop (tBM K "list" rAppend (tVar 1) (tCons (tM1 (uJoin K) (tC (.str (Str.ofString " "))) (tOp (uAdd K) (tLst (tCons (tVar 2) tNil)) (tLc (iU K (tVar 3)) (gName 4) tYes (tCall sp_quoted [] E0 (tCons (tVar 4) tNil)) [4]))) tNil))))
  (tRet (tM1 (uJoin K) (tC (.str (Str.ofString "\n"))) (tVar 1)))))
theorem p_joins_text {P : Program} {w : World} {K : PySem.W.Frag} {mg : Str → Option Value} {base : Heap} {f : Addr} {k : Nat} {sp_quoted : Sp} (gd_quoted : GD P w K mg base k "quoted" ["word"] sp_quoted) (cdv : Value) (A : Around) (outer : List Env) (s : Shared) (H : Hp) (E : XK)
    (hr : Room k (A.deeper (envOfC "joins_text" (defScope s_joins_text) s.heap.objs.size f cdv))) :
    PSs (cxOf CX0 P w K mg base ["one", "rows", "way", "words", "word"] "joins_text" (defScope s_joins_text) f cdv A outer s H E).nox (defBody s_joins_text) (T_joins_text K sp_quoted) :=
  (pss_cons (ps_set (i := 1) sc_joins_text.nd rfl (Or.inl rfl) (pe_lst (pa_cons (pe_ujoin rfl pe_str (pe_op (ou_add rfl) (pe_lst (pa_cons (pe_at rfl (pv 0)) (pa_cons pe_str (pa_cons (pe_at rfl (pv 0)) (pa_cons pe_str pa_nil))))) (pe_lc (own := [("word", 4)]) (g := (gName 4)) (tt := tYes) (te := (tCall sp_quoted [] E0 (tCons (tVar 4) tNil))) rfl sc_joins_text.nd (pi_u rfl (pe_at rfl (pv 0))) (blkOk_by (own := [("word", 4)]) (N := ["one", "rows", "way", "words", "word"]) (sc := defScope s_joins_text) (by decide +kernel)) (fun _ _ _ _ _ => (pg_name (i := 4) sc_joins_text.nd rfl (by first | exact Or.inl rfl | exact Or.inr rfl))) (fun _ _ _ _ _ => pts_nil) (fun _ _ _ _ _ => (pe_gd gd_quoted hr (by rfl) (pa_cons (pv 4) pa_nil)))))) pa_nil)))
  (pss_cons (ps_for PassesOwn.never rfl (pi_u rfl (pe_at rfl (pv 0))) (pg_tup (by rfl) (pgs_cons (pg_name (i := 2) sc_joins_text.nd rfl (by first | exact Or.inl rfl | exact Or.inr rfl)) (pgs_cons (pg_name (i := 3) sc_joins_text.nd rfl (by first | exact Or.inl rfl | exact Or.inr rfl)) pgs_nil))) (pss_one (ps_expr (pe_bm PySem.F.plainAttrs_list PySem.F.slot_list_append PySem.F.type_list_append mt_append (pv 1) (pa_cons (pe_ujoin rfl pe_str (pe_op (ou_add rfl) (pe_lst (pa_cons (pv 2) pa_nil)) (pe_lc (own := [("word", 4)]) (g := (gName 4)) (tt := tYes) (te := (tCall sp_quoted [] E0 (tCons (tVar 4) tNil))) rfl sc_joins_text.nd (pi_u rfl (pv 3)) (blkOk_by (own := [("word", 4)]) (N := ["one", "rows", "way", "words", "word"]) (sc := defScope s_joins_text) (by decide +kernel)) (fun _ _ _ _ _ => (pg_name (i := 4) sc_joins_text.nd rfl (by first | exact Or.inl rfl | exact Or.inr rfl))) (fun _ _ _ _ _ => pts_nil) (fun _ _ _ _ _ => (pe_gd gd_quoted hr (by rfl) (pa_cons (pv 4) pa_nil)))))) pa_nil)))))
  (pss_one (ps_ret (pe_ujoin rfl pe_str (pv 1))))))
/-! written: slots 0 grammar, 1 rows, 2 choice, 3 one, 4 row -/
abbrev s_written : Stmt := topS 43
theorem sc_written : FnScope ["grammar", "rows", "choice", "one", "row"] ["grammar"] (defScope s_written) := ⟨rfl, rfl, rfl, by decide +kernel, rfl, by decide +kernel, by decide +kernel⟩
def T_written (K : PySem.W.Frag) (sp_choice_text : Sp) (sp_joins_text : Sp) : TS :=
  (tSeq (tAsg (tLst (tCons (tOp (uAdd K) (tC (.str (Str.ofString "start "))) (tAt K "start" (tVar 0))) tNil)) (gName 1))
  (tSeq (tAug 1 (tLc (iU K (tAt K "choices" (tVar 0))) (gName 2) tYes (tCall sp_choice_text [] E0 (tCons (tVar 2) tNil)) [2]) (uIpAdd))
  (tSeq (tAug 1 (tLc (iU K (tAt K "joins" (tVar 0))) (gName 3) tYes (tCall sp_joins_text [] E0 (tCons (tVar 3) tNil)) [3]) (uIpAdd))
  (tRet (tM1 (uJoin K) (tC (.str (Str.ofString ""))) (tLc (iU K (tVar 1)) (gName 4) tYes (tOp (uAdd K) (tVar 4) (tC (.str (Str.ofString "\n")))) [4]))))))
theorem p_written {P : Program} {w : World} {K : PySem.W.Frag} {mg : Str → Option Value} {base : Heap} {f : Addr} {k : Nat} {sp_choice_text : Sp} (gd_choice_text : GD P w K mg base k "choice_text" ["choice"] sp_choice_text) {sp_joins_text : Sp} (gd_joins_text : GD P w K mg base k "joins_text" ["one"] sp_joins_text) (cdv : Value) (A : Around) (outer : List Env) (s : Shared) (H : Hp) (E : XK)
    (hr : Room k (A.deeper (envOfC "written" (defScope s_written) s.heap.objs.size f cdv))) :
    PSs (cxOf CX0 P w K mg base ["grammar", "rows", "choice", "one", "row"] "written" (defScope s_written) f cdv A outer s H E).nox (defBody s_written) (T_written K sp_choice_text sp_joins_text) :=
  (pss_cons (ps_set (i := 1) sc_written.nd rfl (Or.inl rfl) (pe_lst (pa_cons (pe_op (ou_add rfl) pe_str (pe_at rfl (pv 0))) pa_nil)))
  (pss_cons (ps_aug (i := 1) sc_written.nd rfl (Or.inl rfl) (pe_lc (own := [("choice", 2)]) (g := (gName 2)) (tt := tYes) (te := (tCall sp_choice_text [] E0 (tCons (tVar 2) tNil))) rfl sc_written.nd (pi_u rfl (pe_at rfl (pv 0))) (blkOk_by (own := [("choice", 2)]) (N := ["grammar", "rows", "choice", "one", "row"]) (sc := defScope s_written) (by decide +kernel)) (fun _ _ _ _ _ => (pg_name (i := 2) sc_written.nd rfl (by first | exact Or.inl rfl | exact Or.inr rfl))) (fun _ _ _ _ _ => pts_nil) (fun _ _ _ _ _ => (pe_gd gd_choice_text hr (by rfl) (pa_cons (pv 2) pa_nil)))) ipu_add)
  (pss_cons (ps_aug (i := 1) sc_written.nd rfl (Or.inl rfl) (pe_lc (own := [("one", 3)]) (g := (gName 3)) (tt := tYes) (te := (tCall sp_joins_text [] E0 (tCons (tVar 3) tNil))) rfl sc_written.nd (pi_u rfl (pe_at rfl (pv 0))) (blkOk_by (own := [("one", 3)]) (N := ["grammar", "rows", "choice", "one", "row"]) (sc := defScope s_written) (by decide +kernel)) (fun _ _ _ _ _ => (pg_name (i := 3) sc_written.nd rfl (by first | exact Or.inl rfl | exact Or.inr rfl))) (fun _ _ _ _ _ => pts_nil) (fun _ _ _ _ _ => (pe_gd gd_joins_text hr (by rfl) (pa_cons (pv 3) pa_nil)))) ipu_add)
  (pss_one (ps_ret (pe_ujoin rfl pe_str (pe_lc (own := [("row", 4)]) (g := (gName 4)) (tt := tYes) (te := (tOp (uAdd K) (tVar 4) (tC (.str (Str.ofString "\n"))))) rfl sc_written.nd (pi_u rfl (pv 1)) (blkOk_by (own := [("row", 4)]) (N := ["grammar", "rows", "choice", "one", "row"]) (sc := defScope s_written) (by decide +kernel)) (fun _ _ _ _ _ => (pg_name (i := 4) sc_written.nd rfl (by first | exact Or.inl rfl | exact Or.inr rfl))) (fun _ _ _ _ _ => pts_nil) (fun _ _ _ _ _ => (pe_op (ou_add rfl) (pv 4) pe_str)))))))))
/-! _law_cell: slots 0 _law_script, 1 _law_k, 2 _law_cell_here, 3 _law_more -/
abbrev s__law_cell : Stmt := topS 45
theorem sc__law_cell : FnScope ["_law_script", "_law_k", "_law_cell_here", "_law_more"] ["_law_script", "_law_k"] (defScope s__law_cell) := ⟨rfl, rfl, rfl, by decide +kernel, rfl, by decide +kernel, by decide +kernel⟩
def T__law_cell (K : PySem.W.Frag) : TS :=
  (tSeq (tAsg (tOp (uAdd K) (tOp uMul (tC (.int 7919)) (tVar 1)) (tC (.int 11))) (gName 2))
  (tSeq (tIfS (tTest (tOp (uNeL K) (tVar 0) (tLst tNil))) (tSeq (tAsg (tOp (uAdd K) (tOp uMul (tOp (rIx K) (tVar 0) (tOp uMod (tVar 1) (tCB (uLen K) (tCons (tVar 0) tNil)))) (tC (.int 48271))) (tOp uMul (tC (.int 104729)) (tVar 1))) (gName 2))
  (tAsg (tOp (uAdd K) (tVar 2) (tOp uMul (tOp uDiv (tVar 1) (tCB (uLen K) (tCons (tVar 0) tNil))) (tC (.int 7919)))) (gName 2))) tNext)
  (tSeq (tAsg (tOp uMod (tVar 2) (tC (.int 2147483647))) (gName 3))
  (tSeq (tAsg (tOp uMod (tOp uMul (tVar 3) (tVar 3)) (tC (.int 2147483629))) (gName 3))
  (tRet (tOp uMod (tOp (uAdd K) (tOp (uAdd K) (tOp uMul (tVar 3) (tVar 3)) (tOp uMul (tC (.int 69621)) (tVar 3))) (tVar 1)) (tC (.int 2147483587))))))))
theorem p__law_cell {P : Program} {w : World} {K : PySem.W.Frag} {mg : Str → Option Value} {base : Heap} {f : Addr} {k : Nat} (mz_len : mg "len" = none) (cdv : Value) (A : Around) (outer : List Env) (s : Shared) (H : Hp) (E : XK)
    (hr : Room k (A.deeper (envOfC "_law_cell" (defScope s__law_cell) s.heap.objs.size f cdv))) :
    PSs (cxOf CX0 P w K mg base ["_law_script", "_law_k", "_law_cell_here", "_law_more"] "_law_cell" (defScope s__law_cell) f cdv A outer s H E).nox (defBody s__law_cell) (T__law_cell K) :=
  (pss_cons (ps_set (i := 2) sc__law_cell.nd rfl (Or.inl rfl) (pe_op (ou_add rfl) (pe_op ou_mul pe_int (pv 1)) pe_int))
  (pss_cons (ps_if (pt_cmpR (ou_neL rfl (room64 hr)) (pv 0) (pe_lst pa_nil) (nomark _)) (pss_cons (ps_set (i := 2) sc__law_cell.nd rfl (Or.inl rfl) (pe_op (ou_add rfl) (pe_op ou_mul (pe_ix (ou_ix rfl) (pv 0) (pe_op ou_mod (pv 1) (pe_callB (cu_len rfl) (by rfl) mz_len (by decide +kernel) (pa_cons (pv 0) pa_nil))) (fun _ _ => rfl)) pe_int) (pe_op ou_mul pe_int (pv 1))))
  (pss_one (ps_set (i := 2) sc__law_cell.nd rfl (Or.inl rfl) (pe_op (ou_add rfl) (pv 2) (pe_op ou_mul (pe_op ou_div (pv 1) (pe_callB (cu_len rfl) (by rfl) mz_len (by decide +kernel) (pa_cons (pv 0) pa_nil))) pe_int))))) pss_nil)
  (pss_cons (ps_set (i := 3) sc__law_cell.nd rfl (Or.inl rfl) (pe_op ou_mod (pv 2) pe_int))
  (pss_cons (ps_set (i := 3) sc__law_cell.nd rfl (Or.inl rfl) (pe_op ou_mod (pe_op ou_mul (pv 3) (pv 3)) pe_int))
  (pss_one (ps_ret (pe_op ou_mod (pe_op (ou_add rfl) (pe_op (ou_add rfl) (pe_op ou_mul (pv 3) (pv 3)) (pe_op ou_mul pe_int (pv 3))) (pv 1)) pe_int)))))))
/-! _law_signs: slots  -/
abbrev s__law_signs : Stmt := topS 46
theorem sc__law_signs : FnScope [] [] (defScope s__law_signs) := ⟨rfl, rfl, rfl, by decide +kernel, rfl, by decide +kernel, by decide +kernel⟩
def T__law_signs (K : PySem.W.Frag) : TS :=
  (tRet (tC (.str (Str.ofString "!#$&()*+,-./:;<=>?@\x5b]^{|}~"))))
theorem p__law_signs {P : Program} {w : World} {K : PySem.W.Frag} {mg : Str → Option Value} {base : Heap} {f : Addr} {k : Nat} (cdv : Value) (A : Around) (outer : List Env) (s : Shared) (H : Hp) (E : XK)
    (hr : Room k (A.deeper (envOfC "_law_signs" (defScope s__law_signs) s.heap.objs.size f cdv))) :
    PSs (cxOf CX0 P w K mg base [] "_law_signs" (defScope s__law_signs) f cdv A outer s H E).nox (defBody s__law_signs) (T__law_signs K) :=
  (pss_one (ps_ret pe_str))
/-! _law_fixed_by: slots 0 _law_cell_here, 1 _law_letters, 2 _law_usual, 3 _law_step, 4 _law_k -/
abbrev s__law_fixed_by : Stmt := topS 47
theorem sc__law_fixed_by : FnScope ["_law_cell_here", "_law_letters", "_law_usual", "_law_step", "_law_k"] ["_law_cell_here"] (defScope s__law_fixed_by) := ⟨rfl, rfl, rfl, by decide +kernel, rfl, by decide +kernel, by decide +kernel⟩
def T__law_fixed_by (K : PySem.W.Frag) (sp__law_signs : Sp) : TS :=
  (tSeq (tAsg (tC (.str (Str.ofString "abcdefghijklmnopqrstuvwxyz"))) (gName 1))
  (tSeq (tAsg (tM1 uSplit (tC (.str (Str.ofString "if in then a ab < <= = == ( ) - -> + zz no > >="))) (tC (.str (Str.ofString " ")))) (gName 2))
  (tSeq (tIfS (tTest (tOp uGt (tOp uMod (tVar 0) (tC (.int 3))) (tC (.int 0)))) (tRet (tOp (rIx K) (tVar 2) (tOp uMod (tOp uDiv (tVar 0) (tC (.int 3))) (tC (.int 18))))) tNext)
  (tSeq (tIfS (tTest (tOp (uEq K) (tOp uMod (tOp uDiv (tVar 0) (tC (.int 3))) (tC (.int 2))) (tC (.int 0)))) (tSeq (tAsg (tOp (uAdd K) (tC (.int 1)) (tOp uMod (tOp uDiv (tVar 0) (tC (.int 78))) (tC (.int 25)))) (gName 3))
  (tRet (tM1 (uJoin K) (tC (.str (Str.ofString ""))) (tLc (iRng1 (tCons (tOp (uAdd K) (tC (.int 1)) (tOp uMod (tOp uDiv (tVar 0) (tC (.int 2000))) (tC (.int 8)))) tNil)) (gName 4) tYes (tOp (rIx K) (tVar 1) (tOp uMod (tOp (uAdd K) (tOp uDiv (tVar 0) (tC (.int 6))) (tOp uMul (tVar 4) (tVar 3))) (tC (.int 26)))) [4])))) tNext)
  (tSeq (tAsg (tOp uMod (tOp uDiv (tVar 0) (tC (.int 162))) (tC (.int 26))) (gName 3))
  (tRet (tM1 (uJoin K) (tC (.str (Str.ofString ""))) (tLc (iRng1 (tCons (tOp (uAdd K) (tC (.int 1)) (tOp uMod (tOp uDiv (tVar 0) (tC (.int 5000))) (tC (.int 3)))) tNil)) (gName 4) tYes (tOp (rIx K) (tCall sp__law_signs [] E0 tNil) (tOp uMod (tOp (uAdd K) (tOp uDiv (tVar 0) (tC (.int 6))) (tOp uMul (tVar 4) (tVar 3))) (tC (.int 26)))) [4]))))))))
theorem p__law_fixed_by {P : Program} {w : World} {K : PySem.W.Frag} {mg : Str → Option Value} {base : Heap} {f : Addr} {k : Nat} {sp__law_signs : Sp} (gd__law_signs : GD P w K mg base k "_law_signs" [] sp__law_signs) (mz_range : mg "range" = none) (cdv : Value) (A : Around) (outer : List Env) (s : Shared) (H : Hp) (E : XK)
    (hr : Room k (A.deeper (envOfC "_law_fixed_by" (defScope s__law_fixed_by) s.heap.objs.size f cdv))) :
    PSs (cxOf CX0 P w K mg base ["_law_cell_here", "_law_letters", "_law_usual", "_law_step", "_law_k"] "_law_fixed_by" (defScope s__law_fixed_by) f cdv A outer s H E).nox (defBody s__law_fixed_by) (T__law_fixed_by K sp__law_signs) :=
  (pss_cons (ps_set (i := 1) sc__law_fixed_by.nd rfl (Or.inr rfl) pe_str)
  (pss_cons (ps_set (i := 2) sc__law_fixed_by.nd rfl (Or.inl rfl) (pe_usplit pe_str pe_str))
  (pss_cons (ps_if (pt_cmpR ou_gt (pe_op ou_mod (pv 0) pe_int) pe_int (nomark _)) (pss_one (ps_ret (pe_ix (ou_ix rfl) (pv 2) (pe_op ou_mod (pe_op ou_div (pv 0) pe_int) pe_int) (fun _ _ => rfl)))) pss_nil)
  (pss_cons (ps_if (pt_cmpR (ou_eq rfl (room64 hr)) (pe_op ou_mod (pe_op ou_div (pv 0) pe_int) pe_int) pe_int (nomark _)) (pss_cons (ps_set (i := 3) sc__law_fixed_by.nd rfl (Or.inr rfl) (pe_op (ou_add rfl) pe_int (pe_op ou_mod (pe_op ou_div (pv 0) pe_int) pe_int)))
  (pss_one (ps_ret (pe_ujoin rfl pe_str (pe_lc (own := [("_law_k", 4)]) (g := (gName 4)) (tt := tYes) (te := (tOp (rIx K) (tVar 1) (tOp uMod (tOp (uAdd K) (tOp uDiv (tVar 0) (tC (.int 6))) (tOp uMul (tVar 4) (tVar 3))) (tC (.int 26))))) rfl sc__law_fixed_by.nd (pi_range1 (by rfl) mz_range (pa_cons (pe_op (ou_add rfl) pe_int (pe_op ou_mod (pe_op ou_div (pv 0) pe_int) pe_int)) pa_nil)) (blkOk_by (own := [("_law_k", 4)]) (N := ["_law_cell_here", "_law_letters", "_law_usual", "_law_step", "_law_k"]) (sc := defScope s__law_fixed_by) (by decide +kernel)) (fun _ _ _ _ _ => (pg_name (i := 4) sc__law_fixed_by.nd rfl (by first | exact Or.inl rfl | exact Or.inr rfl))) (fun _ _ _ _ _ => pts_nil) (fun _ _ _ _ _ => (pe_ix (ou_ix rfl) (pv 1) (pe_op ou_mod (pe_op (ou_add rfl) (pe_op ou_div (pv 0) pe_int) (pe_op ou_mul (pv 4) (pv 3))) pe_int) (fun _ _ => rfl)))))))) pss_nil)
  (pss_cons (ps_set (i := 3) sc__law_fixed_by.nd rfl (Or.inr rfl) (pe_op ou_mod (pe_op ou_div (pv 0) pe_int) pe_int))
  (pss_one (ps_ret (pe_ujoin rfl pe_str (pe_lc (own := [("_law_k", 4)]) (g := (gName 4)) (tt := tYes) (te := (tOp (rIx K) (tCall sp__law_signs [] E0 tNil) (tOp uMod (tOp (uAdd K) (tOp uDiv (tVar 0) (tC (.int 6))) (tOp uMul (tVar 4) (tVar 3))) (tC (.int 26))))) rfl sc__law_fixed_by.nd (pi_range1 (by rfl) mz_range (pa_cons (pe_op (ou_add rfl) pe_int (pe_op ou_mod (pe_op ou_div (pv 0) pe_int) pe_int)) pa_nil)) (blkOk_by (own := [("_law_k", 4)]) (N := ["_law_cell_here", "_law_letters", "_law_usual", "_law_step", "_law_k"]) (sc := defScope s__law_fixed_by) (by decide +kernel)) (fun _ _ _ _ _ => (pg_name (i := 4) sc__law_fixed_by.nd rfl (by first | exact Or.inl rfl | exact Or.inr rfl))) (fun _ _ _ _ _ => pts_nil) (fun _ _ _ _ _ => (pe_ix (ou_ix rfl) (pe_gd0 gd__law_signs hr (by rfl)) (pe_op ou_mod (pe_op (ou_add rfl) (pe_op ou_div (pv 0) pe_int) (pe_op ou_mul (pv 4) (pv 3))) pe_int) (fun _ _ => rfl))))))))))))
/-! _law_part_by: slots 0 _law_cell_here -/
abbrev s__law_part_by : Stmt := topS 48
theorem sc__law_part_by : FnScope ["_law_cell_here"] ["_law_cell_here"] (defScope s__law_part_by) := ⟨rfl, rfl, rfl, by decide +kernel, rfl, by decide +kernel, by decide +kernel⟩
def T__law_part_by (K : PySem.W.Frag) : TS :=
  (tRet (tOp (rIx K) (tLst (tCons (tC (.str (Str.ofString "a"))) (tCons (tC (.str (Str.ofString "b"))) (tCons (tC (.str (Str.ofString "c"))) (tCons (tC (.str (Str.ofString "expr"))) (tCons (tC (.str (Str.ofString "term"))) (tCons (tC (.str (Str.ofString "list"))) (tCons (tC (.str (Str.ofString "abcdefgh"))) (tCons (tC (.str (Str.ofString "stmt"))) tNil))))))))) (tOp uMod (tVar 0) (tC (.int 8)))))
theorem p__law_part_by {P : Program} {w : World} {K : PySem.W.Frag} {mg : Str → Option Value} {base : Heap} {f : Addr} {k : Nat} (cdv : Value) (A : Around) (outer : List Env) (s : Shared) (H : Hp) (E : XK)
    (hr : Room k (A.deeper (envOfC "_law_part_by" (defScope s__law_part_by) s.heap.objs.size f cdv))) :
    PSs (cxOf CX0 P w K mg base ["_law_cell_here"] "_law_part_by" (defScope s__law_part_by) f cdv A outer s H E).nox (defBody s__law_part_by) (T__law_part_by K) :=
  (pss_one (ps_ret (pe_ix (ou_ix rfl) (pe_lst (pa_cons pe_str (pa_cons pe_str (pa_cons pe_str (pa_cons pe_str (pa_cons pe_str (pa_cons pe_str (pa_cons pe_str (pa_cons pe_str pa_nil))))))))) (pe_op ou_mod (pv 0) pe_int) (fun _ _ => rfl))))
/-! _law_label_by: slots 0 _law_cell_here -/
abbrev s__law_label_by : Stmt := topS 49
theorem sc__law_label_by : FnScope ["_law_cell_here"] ["_law_cell_here"] (defScope s__law_label_by) := ⟨rfl, rfl, rfl, by decide +kernel, rfl, by decide +kernel, by decide +kernel⟩
def T__law_label_by (K : PySem.W.Frag) : TS :=
  (tRet (tOp (rIx K) (tLst (tCons (tC (.str (Str.ofString "one"))) (tCons (tC (.str (Str.ofString "two"))) (tCons (tC (.str (Str.ofString "add"))) (tCons (tC (.str (Str.ofString "more"))) (tCons (tC (.str (Str.ofString "top"))) (tCons (tC (.str (Str.ofString "none"))) (tCons (tC (.str (Str.ofString "join"))) (tCons (tC (.str (Str.ofString "a"))) (tCons (tC (.str (Str.ofString "up"))) (tCons (tC (.str (Str.ofString "longest"))) tNil))))))))))) (tOp uMod (tVar 0) (tC (.int 10)))))
theorem p__law_label_by {P : Program} {w : World} {K : PySem.W.Frag} {mg : Str → Option Value} {base : Heap} {f : Addr} {k : Nat} (cdv : Value) (A : Around) (outer : List Env) (s : Shared) (H : Hp) (E : XK)
    (hr : Room k (A.deeper (envOfC "_law_label_by" (defScope s__law_label_by) s.heap.objs.size f cdv))) :
    PSs (cxOf CX0 P w K mg base ["_law_cell_here"] "_law_label_by" (defScope s__law_label_by) f cdv A outer s H E).nox (defBody s__law_label_by) (T__law_label_by K) :=
  (pss_one (ps_ret (pe_ix (ou_ix rfl) (pe_lst (pa_cons pe_str (pa_cons pe_str (pa_cons pe_str (pa_cons pe_str (pa_cons pe_str (pa_cons pe_str (pa_cons pe_str (pa_cons pe_str (pa_cons pe_str (pa_cons pe_str pa_nil))))))))))) (pe_op ou_mod (pv 0) pe_int) (fun _ _ => rfl))))
/-! _law_plain_item: slots 0 _law_cell_here -/
abbrev s__law_plain_item : Stmt := topS 50
theorem sc__law_plain_item : FnScope ["_law_cell_here"] ["_law_cell_here"] (defScope s__law_plain_item) := ⟨rfl, rfl, rfl, by decide +kernel, rfl, by decide +kernel, by decide +kernel⟩
def T__law_plain_item (K : PySem.W.Frag) (sp__law_part_by : Sp) (sp__law_fixed_by : Sp) : TS :=
  (tSeq (tIfS (tTest (tOp uLt (tOp uMod (tVar 0) (tC (.int 5))) (tC (.int 2)))) (tRet (tTup (tCons (tC (.str (Str.ofString "part"))) (tCons (tCall sp__law_part_by [] E0 (tCons (tOp uDiv (tVar 0) (tC (.int 5))) tNil)) tNil)))) tNext)
  (tSeq (tIfS (tTest (tOp (uEq K) (tOp uMod (tVar 0) (tC (.int 5))) (tC (.int 2)))) (tRet (tTup (tCons (tC (.str (Str.ofString "word"))) (tCons (tOp (rIx K) (tLst (tCons (tC (.str (Str.ofString "NAME"))) (tCons (tC (.str (Str.ofString "NUMBER"))) (tCons (tC (.str (Str.ofString "QUOTE"))) tNil)))) (tOp uMod (tOp uDiv (tVar 0) (tC (.int 5))) (tC (.int 3)))) tNil)))) tNext)
  (tRet (tTup (tCons (tC (.str (Str.ofString "word"))) (tCons (tOp (uAdd K) (tC (.str (Str.ofString "'"))) (tCall sp__law_fixed_by [] E0 (tCons (tOp uDiv (tVar 0) (tC (.int 5))) tNil))) tNil))))))
theorem p__law_plain_item {P : Program} {w : World} {K : PySem.W.Frag} {mg : Str → Option Value} {base : Heap} {f : Addr} {k : Nat} {sp__law_part_by : Sp} (gd__law_part_by : GD P w K mg base k "_law_part_by" ["_law_cell_here"] sp__law_part_by) {sp__law_fixed_by : Sp} (gd__law_fixed_by : GD P w K mg base k "_law_fixed_by" ["_law_cell_here"] sp__law_fixed_by) (cdv : Value) (A : Around) (outer : List Env) (s : Shared) (H : Hp) (E : XK)
    (hr : Room k (A.deeper (envOfC "_law_plain_item" (defScope s__law_plain_item) s.heap.objs.size f cdv))) :
    PSs (cxOf CX0 P w K mg base ["_law_cell_here"] "_law_plain_item" (defScope s__law_plain_item) f cdv A outer s H E).nox (defBody s__law_plain_item) (T__law_plain_item K sp__law_part_by sp__law_fixed_by) :=
  (pss_cons (ps_if (pt_cmpR ou_lt (pe_op ou_mod (pv 0) pe_int) pe_int (nomark _)) (pss_one (ps_ret (pe_tup (pa_cons pe_str (pa_cons (pe_gd gd__law_part_by hr (by rfl) (pa_cons (pe_op ou_div (pv 0) pe_int) pa_nil)) pa_nil))))) pss_nil)
  (pss_cons (ps_if (pt_cmpR (ou_eq rfl (room64 hr)) (pe_op ou_mod (pv 0) pe_int) pe_int (nomark _)) (pss_one (ps_ret (pe_tup (pa_cons pe_str (pa_cons (pe_ix (ou_ix rfl) (pe_lst (pa_cons pe_str (pa_cons pe_str (pa_cons pe_str pa_nil)))) (pe_op ou_mod (pe_op ou_div (pv 0) pe_int) pe_int) (fun _ _ => rfl)) pa_nil))))) pss_nil)
  (pss_one (ps_ret (pe_tup (pa_cons pe_str (pa_cons (pe_op (ou_add rfl) pe_str (pe_gd gd__law_fixed_by hr (by rfl) (pa_cons (pe_op ou_div (pv 0) pe_int) pa_nil))) pa_nil)))))))
/-! _law_item_by: slots 0 _law_script, 1 _law_k, 2 _law_more, 3 _law_inner, 4 _law_j -/
abbrev s__law_item_by : Stmt := topS 51
theorem sc__law_item_by : FnScope ["_law_script", "_law_k", "_law_more", "_law_inner", "_law_j"] ["_law_script", "_law_k"] (defScope s__law_item_by) := ⟨rfl, rfl, rfl, by decide +kernel, rfl, by decide +kernel, by decide +kernel⟩
def T__law_item_by (K : PySem.W.Frag) (sp__law_cell : Sp) (sp__law_plain_item : Sp) (sp__law_fixed_by : Sp) : TS :=
  (tSeq (tAsg (tCall sp__law_cell [] E0 (tCons (tVar 0) (tCons (tVar 1) tNil))) (gName 2))
  (tSeq (tIfS (tTest (tOp uLt (tOp uMod (tVar 2) (tC (.int 5))) (tC (.int 3)))) (tRet (tCall sp__law_plain_item [] E0 (tCons (tOp uDiv (tVar 2) (tC (.int 5))) tNil))) tNext)
  (tSeq (tAsg (tCB (uTuple K) (tCons (tLc (iRng1 (tCons (tOp (uAdd K) (tC (.int 1)) (tOp uMod (tOp uDiv (tVar 2) (tC (.int 5))) (tC (.int 3)))) tNil)) (gName 4) tYes (tCall sp__law_plain_item [] E0 (tCons (tCall sp__law_cell [] E0 (tCons (tVar 0) (tCons (tOp (uAdd K) (tOp (uAdd K) (tVar 1) (tC (.int 3000))) (tOp uMul (tC (.int 1000)) (tVar 4))) tNil))) tNil)) [4]) tNil)) (gName 3))
  (tSeq (tIfS (tTest (tOp (uEq K) (tOp uMod (tVar 2) (tC (.int 5))) (tC (.int 3)))) (tRet (tTup (tCons (tC (.str (Str.ofString "maybe"))) (tCons (tVar 3) tNil)))) tNext)
  (tRet (tTup (tCons (tC (.str (Str.ofString "again"))) (tCons (tVar 3) (tCons (tOp (rIx K) (tLst (tCons (tC .non) (tCons (tOp (uAdd K) (tC (.str (Str.ofString "'"))) (tCall sp__law_fixed_by [] E0 (tCons (tOp uDiv (tVar 2) (tC (.int 15))) tNil))) tNil))) (tOp uMod (tOp uDiv (tVar 2) (tC (.int 5000))) (tC (.int 2)))) tNil)))))))))
theorem p__law_item_by {P : Program} {w : World} {K : PySem.W.Frag} {mg : Str → Option Value} {base : Heap} {f : Addr} {k : Nat} {sp__law_cell : Sp} (gd__law_cell : GD P w K mg base k "_law_cell" ["_law_script", "_law_k"] sp__law_cell) {sp__law_plain_item : Sp} (gd__law_plain_item : GD P w K mg base k "_law_plain_item" ["_law_cell_here"] sp__law_plain_item) {sp__law_fixed_by : Sp} (gd__law_fixed_by : GD P w K mg base k "_law_fixed_by" ["_law_cell_here"] sp__law_fixed_by) (mz_tuple : mg "tuple" = none) (mz_range : mg "range" = none) (cdv : Value) (A : Around) (outer : List Env) (s : Shared) (H : Hp) (E : XK)
    (hr : Room k (A.deeper (envOfC "_law_item_by" (defScope s__law_item_by) s.heap.objs.size f cdv))) :
    PSs (cxOf CX0 P w K mg base ["_law_script", "_law_k", "_law_more", "_law_inner", "_law_j"] "_law_item_by" (defScope s__law_item_by) f cdv A outer s H E).nox (defBody s__law_item_by) (T__law_item_by K sp__law_cell sp__law_plain_item sp__law_fixed_by) :=
  (pss_cons (ps_set (i := 2) sc__law_item_by.nd rfl (Or.inl rfl) (pe_gd gd__law_cell hr (by rfl) (pa_cons (pv 0) (pa_cons (pv 1) pa_nil))))
  (pss_cons (ps_if (pt_cmpR ou_lt (pe_op ou_mod (pv 2) pe_int) pe_int (nomark _)) (pss_one (ps_ret (pe_gd gd__law_plain_item hr (by rfl) (pa_cons (pe_op ou_div (pv 2) pe_int) pa_nil)))) pss_nil)
  (pss_cons (ps_set (i := 3) sc__law_item_by.nd rfl (Or.inl rfl) (pe_callTy (cu_tuple rfl) (by rfl) mz_tuple (by decide +kernel) (pa_cons (pe_lc (own := [("_law_j", 4)]) (g := (gName 4)) (tt := tYes) (te := (tCall sp__law_plain_item [] E0 (tCons (tCall sp__law_cell [] E0 (tCons (tVar 0) (tCons (tOp (uAdd K) (tOp (uAdd K) (tVar 1) (tC (.int 3000))) (tOp uMul (tC (.int 1000)) (tVar 4))) tNil))) tNil))) rfl sc__law_item_by.nd (pi_range1 (by rfl) mz_range (pa_cons (pe_op (ou_add rfl) pe_int (pe_op ou_mod (pe_op ou_div (pv 2) pe_int) pe_int)) pa_nil)) (blkOk_by (own := [("_law_j", 4)]) (N := ["_law_script", "_law_k", "_law_more", "_law_inner", "_law_j"]) (sc := defScope s__law_item_by) (by decide +kernel)) (fun _ _ _ _ _ => (pg_name (i := 4) sc__law_item_by.nd rfl (by first | exact Or.inl rfl | exact Or.inr rfl))) (fun _ _ _ _ _ => pts_nil) (fun _ _ _ _ _ => (pe_gd gd__law_plain_item hr (by rfl) (pa_cons (pe_gd gd__law_cell hr (by rfl) (pa_cons (pv 0) (pa_cons (pe_op (ou_add rfl) (pe_op (ou_add rfl) (pv 1) pe_int) (pe_op ou_mul pe_int (pv 4))) pa_nil))) pa_nil)))) pa_nil)))
  (pss_cons (ps_if (pt_cmpR (ou_eq rfl (room64 hr)) (pe_op ou_mod (pv 2) pe_int) pe_int (nomark _)) (pss_one (ps_ret (pe_tup (pa_cons pe_str (pa_cons (pv 3) pa_nil))))) pss_nil)
  (pss_one (ps_ret (pe_tup (pa_cons pe_str (pa_cons (pv 3) (pa_cons (pe_ix (ou_ix rfl) (pe_lst (pa_cons pe_non (pa_cons (pe_op (ou_add rfl) pe_str (pe_gd gd__law_fixed_by hr (by rfl) (pa_cons (pe_op ou_div (pv 2) pe_int) pa_nil))) pa_nil))) (pe_op ou_mod (pe_op ou_div (pv 2) pe_int) pe_int) (fun _ _ => rfl)) pa_nil))))))))))
/-! _law_made_item: slots 0 _law_told_here, 1 _law_inner, 2 _law_one -/
abbrev s__law_made_item : Stmt := topS 52
theorem sc__law_made_item : FnScope ["_law_told_here", "_law_inner", "_law_one"] ["_law_told_here"] (defScope s__law_made_item) := ⟨rfl, rfl, rfl, by decide +kernel, rfl, by decide +kernel, by decide +kernel⟩
def T__law_made_item (K : PySem.W.Frag) (sp__law_made_item : Sp) (x_Part : Addr) (x_Word : Addr) (x_Maybe : Addr) (x_Again : Addr) (sp_Part_0 : Sp) (sp_Word_0 : Sp) (sp_Maybe_0 : Sp) (sp_Again_1 : Sp) (sp_Again_0 : Sp) (W : WX) : TS :=
  (tSeq (tIfS (tTest (tOp (uEq K) (tOp (rIx K) (tVar 0) (tC (.int 0))) (tC (.str (Str.ofString "part"))))) (tRet (tMkU x_Part sp_Part_0 [] (WE W) (tCons (tOp (rIx K) (tVar 0) (tC (.int 1))) tNil))) tNext)
  (tSeq (tIfS (tTest (tOp (uEq K) (tOp (rIx K) (tVar 0) (tC (.int 0))) (tC (.str (Str.ofString "word"))))) (tRet (tMkU x_Word sp_Word_0 [] (WE W) (tCons (tOp (rIx K) (tVar 0) (tC (.int 1))) tNil))) tNext)
  (tSeq (tAsg (tLc (iU K (tOp (rIx K) (tVar 0) (tC (.int 1)))) (gName 2) tYes (tCall sp__law_made_item [] E0 (tCons (tVar 2) tNil)) [2]) (gName 1))
  (tSeq (tIfS (tTest (tOp (uEq K) (tOp (rIx K) (tVar 0) (tC (.int 0))) (tC (.str (Str.ofString "maybe"))))) (tRet (tMkU x_Maybe sp_Maybe_0 [] (WE W) (tCons (tVar 1) tNil))) tNext)
  (tSeq (tIfS (tTest (tOp uIs (tOp (rIx K) (tVar 0) (tC (.int 2))) (tC .non))) (tRet (tMkU x_Again sp_Again_1 [.non] (WE W) (tCons (tVar 1) tNil))) tNext)
  (tRet (tMkU x_Again sp_Again_0 [] (WE W) (tCons (tVar 1) (tCons (tOp (rIx K) (tVar 0) (tC (.int 2))) tNil)))))))))
theorem p__law_made_item {P : Program} {w : World} {K : PySem.W.Frag} {mg : Str → Option Value} {base : Heap} {f : Addr} {k : Nat} {sp__law_made_item : Sp} (gd__law_made_item : GX P w K mg base k "_law_made_item" ["_law_told_here"] sp__law_made_item) {x_Part : Addr} {x_Word : Addr} {x_Maybe : Addr} {x_Again : Addr} {sp_Part_0 : Sp} {kc_Part_0 : Nat} (cd_Part_0 : CD P w K mg base kc_Part_0 "Part" x_Part [] sp_Part_0) (hk_Part_0 : kc_Part_0 + 1 ≤ k) {sp_Word_0 : Sp} {kc_Word_0 : Nat} (cd_Word_0 : CD P w K mg base kc_Word_0 "Word" x_Word [] sp_Word_0) (hk_Word_0 : kc_Word_0 + 1 ≤ k) {sp_Maybe_0 : Sp} {kc_Maybe_0 : Nat} (cd_Maybe_0 : CD P w K mg base kc_Maybe_0 "Maybe" x_Maybe [] sp_Maybe_0) (hk_Maybe_0 : kc_Maybe_0 + 1 ≤ k) {sp_Again_1 : Sp} {kc_Again_1 : Nat} (cd_Again_1 : CD P w K mg base kc_Again_1 "Again" x_Again [.non] sp_Again_1) (hk_Again_1 : kc_Again_1 + 1 ≤ k) {sp_Again_0 : Sp} {kc_Again_0 : Nat} (cd_Again_0 : CD P w K mg base kc_Again_0 "Again" x_Again [] sp_Again_0) (hk_Again_0 : kc_Again_0 + 1 ≤ k) (kp_Part : PySem.W.keepIn K (.ref x_Part) = true) (kp_Word : PySem.W.keepIn K (.ref x_Word) = true) (kp_Maybe : PySem.W.keepIn K (.ref x_Maybe) = true) (kp_Again : PySem.W.keepIn K (.ref x_Again) = true) (cdv : Value) (A : Around) (outer : List Env) (s : Shared) (H : Hp) (E : XK)
    (hr : Room k (A.deeper (envOfC "_law_made_item" (defScope s__law_made_item) s.heap.objs.size f cdv))) :
    PSs (cxOf (L2.CX P w) P w K mg base ["_law_told_here", "_law_inner", "_law_one"] "_law_made_item" (defScope s__law_made_item) f cdv A outer s H E) (defBody s__law_made_item) (T__law_made_item K sp__law_made_item x_Part x_Word x_Maybe x_Again sp_Part_0 sp_Word_0 sp_Maybe_0 sp_Again_1 sp_Again_0 (fun cls d _ H => E cls d H)) :=
  (pss_cons (ps_if (pt_cmpR (ou_eq rfl (room64 hr)) (pe_ix (ou_ix rfl) (pv 0) pe_int (fun _ _ => rfl)) pe_str (nomark _)) (pss_one (ps_ret (pe_mkU cd_Part_0 (fun σ => passAt (takes_of rfl rfl rfl rfl) σ) (hr.mono hk_Part_0) (by rfl) kp_Part (pa_cons (pe_ix (ou_ix rfl) (pv 0) pe_int (fun _ _ => rfl)) pa_nil)))) pss_nil)
  (pss_cons (ps_if (pt_cmpR (ou_eq rfl (room64 hr)) (pe_ix (ou_ix rfl) (pv 0) pe_int (fun _ _ => rfl)) pe_str (nomark _)) (pss_one (ps_ret (pe_mkU cd_Word_0 (fun σ => passAt (takes_of rfl rfl rfl rfl) σ) (hr.mono hk_Word_0) (by rfl) kp_Word (pa_cons (pe_ix (ou_ix rfl) (pv 0) pe_int (fun _ _ => rfl)) pa_nil)))) pss_nil)
  (pss_cons (ps_setLc (i := 1) (own := [("_law_one", 2)]) (g := (gName 2)) (tt := tYes) (te := (tCall sp__law_made_item [] E0 (tCons (tVar 2) tNil))) rfl sc__law_made_item.nd rfl rfl (sw_true rfl rfl rfl (by decide +kernel)) (pi_u rfl (pe_ix (ou_ix rfl) (pv 0) pe_int (fun _ _ => rfl))) (blkOk_by (own := [("_law_one", 2)]) (N := ["_law_told_here", "_law_inner", "_law_one"]) (sc := defScope s__law_made_item) (by decide +kernel)) (fun _ _ _ _ _ => (pg_name (i := 2) sc__law_made_item.nd rfl (by first | exact Or.inl rfl | exact Or.inr rfl))) (fun _ _ _ _ _ => pts_nil) (fun _ _ _ _ _ => (pe_gx0 gd__law_made_item hr (by rfl) (pa_cons (pv 2) pa_nil))))
  (pss_cons (ps_if (pt_cmpR (ou_eq rfl (room64 hr)) (pe_ix (ou_ix rfl) (pv 0) pe_int (fun _ _ => rfl)) pe_str (nomark _)) (pss_one (ps_ret (pe_mkU cd_Maybe_0 (fun σ => passAt (takes_of rfl rfl rfl rfl) σ) (hr.mono hk_Maybe_0) (by rfl) kp_Maybe (pa_cons (pv 1) pa_nil)))) pss_nil)
  (pss_cons (ps_if (pt_cmpR ou_is (pe_ix (ou_ix rfl) (pv 0) pe_int (fun _ _ => rfl)) pe_non (nomark _)) (pss_one (ps_ret (pe_mkU cd_Again_1 (fun σ => passAt (takes_of rfl rfl rfl rfl) σ) (hr.mono hk_Again_1) (by rfl) kp_Again (pa_cons (pv 1) pa_nil)))) pss_nil)
  (pss_one (ps_ret (pe_mkU cd_Again_0 (fun σ => passAt (takes_of rfl rfl rfl rfl) σ) (hr.mono hk_Again_0) (by rfl) kp_Again (pa_cons (pv 1) (pa_cons (pe_ix (ou_ix rfl) (pv 0) pe_int (fun _ _ => rfl)) pa_nil))))))))))
/-! _law_word_text: slots 0 _law_kind -/
abbrev s__law_word_text : Stmt := topS 53
theorem sc__law_word_text : FnScope ["_law_kind"] ["_law_kind"] (defScope s__law_word_text) := ⟨rfl, rfl, rfl, by decide +kernel, rfl, by decide +kernel, by decide +kernel⟩
def T__law_word_text (K : PySem.W.Frag) : TS :=
  (tRet (tIf (tTest (tOp (uNe K) (tOp (rIx K) (tVar 0) (tC (.int 0))) (tC (.str (Str.ofString "'"))))) (tVar 0) (tOp (uAdd K) (tVar 0) (tC (.str (Str.ofString "'"))))))
theorem p__law_word_text {P : Program} {w : World} {K : PySem.W.Frag} {mg : Str → Option Value} {base : Heap} {f : Addr} {k : Nat} (cdv : Value) (A : Around) (outer : List Env) (s : Shared) (H : Hp) (E : XK)
    (hr : Room k (A.deeper (envOfC "_law_word_text" (defScope s__law_word_text) s.heap.objs.size f cdv))) :
    PSs (cxOf CX0 P w K mg base ["_law_kind"] "_law_word_text" (defScope s__law_word_text) f cdv A outer s H E).nox (defBody s__law_word_text) (T__law_word_text K) :=
  (pss_one (ps_ret (pe_ifExp (pt_cmpR (ou_ne rfl (room64 hr)) (pe_ix (ou_ix rfl) (pv 0) pe_int (fun _ _ => rfl)) pe_str (nomark _)) (pv 0) (pe_op (ou_add rfl) (pv 0) pe_str))))
/-! _law_item_text: slots 0 _law_told_here, 1 _law_inner, 2 _law_one -/
abbrev s__law_item_text : Stmt := topS 54
theorem sc__law_item_text : FnScope ["_law_told_here", "_law_inner", "_law_one"] ["_law_told_here"] (defScope s__law_item_text) := ⟨rfl, rfl, rfl, by decide +kernel, rfl, by decide +kernel, by decide +kernel⟩
def T__law_item_text (K : PySem.W.Frag) (sp__law_word_text : Sp) (sp__law_item_text : Sp) : TS :=
  (tSeq (tIfS (tTest (tOp (uEq K) (tOp (rIx K) (tVar 0) (tC (.int 0))) (tC (.str (Str.ofString "part"))))) (tRet (tOp (rIx K) (tVar 0) (tC (.int 1)))) tNext)
  (tSeq (tIfS (tTest (tOp (uEq K) (tOp (rIx K) (tVar 0) (tC (.int 0))) (tC (.str (Str.ofString "word"))))) (tRet (tCall sp__law_word_text [] E0 (tCons (tOp (rIx K) (tVar 0) (tC (.int 1))) tNil))) tNext)
  (tSeq (tAsg (tM1 (uJoin K) (tC (.str (Str.ofString " "))) (tLc (iU K (tOp (rIx K) (tVar 0) (tC (.int 1)))) (gName 2) tYes (tCall sp__law_item_text [] E0 (tCons (tVar 2) tNil)) [2])) (gName 1))
  (tSeq (tIfS (tTest (tOp (uEq K) (tOp (rIx K) (tVar 0) (tC (.int 0))) (tC (.str (Str.ofString "maybe"))))) (tRet (tOp (uAdd K) (tOp (uAdd K) (tC (.str (Str.ofString "\x5b "))) (tVar 1)) (tC (.str (Str.ofString " ]"))))) tNext)
  (tRet (tOp (uAdd K) (tOp (uAdd K) (tOp (uAdd K) (tC (.str (Str.ofString "{ "))) (tVar 1)) (tOp (rIx K) (tLst (tCons (tC (.str (Str.ofString ""))) (tCons (tOp (uAdd K) (tC (.str (Str.ofString " / "))) (tCall sp__law_word_text [] E0 (tCons (tCB uStr (tCons (tOp (rIx K) (tVar 0) (tUn uNeg (tC (.int 1)))) tNil)) tNil))) tNil))) (tCB uInt (tCons (tOp uIsNot (tOp (rIx K) (tVar 0) (tC (.int 2))) (tC .non)) tNil)))) (tC (.str (Str.ofString " }")))))))))
theorem p__law_item_text {P : Program} {w : World} {K : PySem.W.Frag} {mg : Str → Option Value} {base : Heap} {f : Addr} {k : Nat} {sp__law_word_text : Sp} (gd__law_word_text : GD P w K mg base k "_law_word_text" ["_law_kind"] sp__law_word_text) {sp__law_item_text : Sp} (gd__law_item_text : GD P w K mg base k "_law_item_text" ["_law_told_here"] sp__law_item_text) (mz_str : mg "str" = none) (mz_int : mg "int" = none) (cdv : Value) (A : Around) (outer : List Env) (s : Shared) (H : Hp) (E : XK)
    (hr : Room k (A.deeper (envOfC "_law_item_text" (defScope s__law_item_text) s.heap.objs.size f cdv))) :
    PSs (cxOf CX0 P w K mg base ["_law_told_here", "_law_inner", "_law_one"] "_law_item_text" (defScope s__law_item_text) f cdv A outer s H E).nox (defBody s__law_item_text) (T__law_item_text K sp__law_word_text sp__law_item_text) :=
  (pss_cons (ps_if (pt_cmpR (ou_eq rfl (room64 hr)) (pe_ix (ou_ix rfl) (pv 0) pe_int (fun _ _ => rfl)) pe_str (nomark _)) (pss_one (ps_ret (pe_ix (ou_ix rfl) (pv 0) pe_int (fun _ _ => rfl)))) pss_nil)
  (pss_cons (ps_if (pt_cmpR (ou_eq rfl (room64 hr)) (pe_ix (ou_ix rfl) (pv 0) pe_int (fun _ _ => rfl)) pe_str (nomark _)) (pss_one (ps_ret (pe_gd gd__law_word_text hr (by rfl) (pa_cons (pe_ix (ou_ix rfl) (pv 0) pe_int (fun _ _ => rfl)) pa_nil)))) pss_nil)
  (pss_cons (ps_set (i := 1) sc__law_item_text.nd rfl (Or.inl rfl) (pe_ujoin rfl pe_str (pe_lc (own := [("_law_one", 2)]) (g := (gName 2)) (tt := tYes) (te := (tCall sp__law_item_text [] E0 (tCons (tVar 2) tNil))) rfl sc__law_item_text.nd (pi_u rfl (pe_ix (ou_ix rfl) (pv 0) pe_int (fun _ _ => rfl))) (blkOk_by (own := [("_law_one", 2)]) (N := ["_law_told_here", "_law_inner", "_law_one"]) (sc := defScope s__law_item_text) (by decide +kernel)) (fun _ _ _ _ _ => (pg_name (i := 2) sc__law_item_text.nd rfl (by first | exact Or.inl rfl | exact Or.inr rfl))) (fun _ _ _ _ _ => pts_nil) (fun _ _ _ _ _ => (pe_gd gd__law_item_text hr (by rfl) (pa_cons (pv 2) pa_nil))))))
  (pss_cons (ps_if (pt_cmpR (ou_eq rfl (room64 hr)) (pe_ix (ou_ix rfl) (pv 0) pe_int (fun _ _ => rfl)) pe_str (nomark _)) (pss_one (ps_ret (pe_op (ou_add rfl) (pe_op (ou_add rfl) pe_str (pv 1)) pe_str))) pss_nil)
  (pss_one (ps_ret (pe_op (ou_add rfl) (pe_op (ou_add rfl) (pe_op (ou_add rfl) pe_str (pv 1)) (pe_ix (ou_ix rfl) (pe_lst (pa_cons pe_str (pa_cons (pe_op (ou_add rfl) pe_str (pe_gd gd__law_word_text hr (by rfl) (pa_cons (pe_callTy cu_str (by rfl) mz_str (by decide +kernel) (pa_cons (pe_ix (ou_ix rfl) (pv 0) (pe_un ou_neg pe_int) (fun _ _ => rfl)) pa_nil)) pa_nil))) pa_nil))) (pe_callTy cu_int (by rfl) mz_int (by decide +kernel) (pa_cons (pe_cmpR ou_isnot (pe_ix (ou_ix rfl) (pv 0) pe_int (fun _ _ => rfl)) pe_non (nomark _)) pa_nil)) (fun _ _ => rfl))) pe_str)))))))
/-! _law_joins_by: slots 0 _law_script, 1 _law_k, 2 _law_part, 3 _law_more, 4 _law_seen, 5 _law_levels, 6 _law_j, 7 _law_mix, 8 _law_way, 9 _law_words, 10 _law_i, 11 _law_word, 12 _law_place, 13 _law_brackets -/
abbrev s__law_joins_by : Stmt := topS 55
theorem sc__law_joins_by : FnScope ["_law_script", "_law_k", "_law_part", "_law_more", "_law_seen", "_law_levels", "_law_j", "_law_mix", "_law_way", "_law_words", "_law_i", "_law_word", "_law_place", "_law_brackets"] ["_law_script", "_law_k", "_law_part"] (defScope s__law_joins_by) := ⟨rfl, rfl, rfl, by decide +kernel, rfl, by decide +kernel, by decide +kernel⟩
def T__law_joins_by (K : PySem.W.Frag) (sp__law_cell : Sp) (sp__law_fixed_by : Sp) (sp__law_part_by : Sp) : TS :=
  (tSeq (tAsg (tCall sp__law_cell [] E0 (tCons (tVar 0) (tCons (tVar 1) tNil))) (gName 3))
  (tSeq (tAsg (tLst tNil) (gName 4))
  (tSeq (tAsg (tLst tNil) (gName 5))
  (tSeq (tFor (iRng1 (tCons (tOp (uAdd K) (tC (.int 1)) (tOp uMod (tVar 3) (tC (.int 5)))) tNil)) (gName 6) (tSeq (tAsg (tCall sp__law_cell [] E0 (tCons (tVar 0) (tCons (tOp (uAdd K) (tOp (uAdd K) (tVar 1) (tC (.int 100))) (tVar 6)) tNil))) (gName 7))
  (tSeq (tAsg (tOp (rIx K) (tLst (tCons (tC (.str (Str.ofString "left"))) (tCons (tC (.str (Str.ofString "right"))) (tCons (tC (.str (Str.ofString "alone"))) (tCons (tC (.str (Str.ofString "ahead"))) (tCons (tC (.str (Str.ofString "behind"))) tNil)))))) (tOp uMod (tVar 7) (tC (.int 5)))) (gName 8))
  (tSeq (tAsg (tLst tNil) (gName 9))
  (tSeq (tFor (iRng1 (tCons (tOp (uAdd K) (tC (.int 1)) (tOp uMod (tOp uDiv (tVar 7) (tC (.int 5))) (tC (.int 4)))) tNil)) (gName 10) (tSeq (tAsg (tCall sp__law_fixed_by [] E0 (tCons (tCall sp__law_cell [] E0 (tCons (tVar 0) (tCons (tOp (uAdd K) (tOp (uAdd K) (tOp (uAdd K) (tVar 1) (tC (.int 200))) (tOp uMul (tC (.int 10)) (tVar 6))) (tVar 10)) tNil))) tNil)) (gName 11))
  (tSeq (tAsg (tOp (rIx K) (tLst (tCons (tVar 8) (tCons (tC (.str (Str.ofString "between"))) tNil))) (tCB uInt (tCons (tOp uLt (tOp uMod (tVar 7) (tC (.int 5))) (tC (.int 3))) tNil))) (gName 12))
  (tIfS (tTest (tOp (uNotIn K) (tTup (tCons (tVar 12) (tCons (tVar 11) tNil))) (tVar 4))) (tSeq (tDrop (tBM K "list" rAppend (tVar 4) (tCons (tTup (tCons (tVar 12) (tCons (tVar 11) tNil))) tNil)))
  (tDrop (tBM K "list" rAppend (tVar 9) (tCons (tVar 11) tNil)))) tNext))))
  (tIfS (tTest (tOp (uNeL K) (tVar 9) (tLst tNil))) (tDrop (tBM K "list" rAppend (tVar 5) (tCons (tTup (tCons (tVar 8) (tCons (tVar 9) tNil))) tNil))) tNext))))))
  (tSeq (tAsg (tTup (tCons (tCall sp__law_fixed_by [] E0 (tCons (tCall sp__law_cell [] E0 (tCons (tVar 0) (tCons (tOp (uAdd K) (tVar 1) (tC (.int 300))) tNil))) tNil)) (tCons (tCall sp__law_fixed_by [] E0 (tCons (tCall sp__law_cell [] E0 (tCons (tVar 0) (tCons (tOp (uAdd K) (tVar 1) (tC (.int 301))) tNil))) tNil)) tNil))) (gName 13))
  (tRet (tTup (tCons (tVar 2) (tCons (tCall sp__law_part_by [] E0 (tCons (tOp uDiv (tVar 3) (tC (.int 5))) tNil)) (tCons (tVar 13) (tCons (tVar 5) tNil)))))))))))
theorem p__law_joins_by {P : Program} {w : World} {K : PySem.W.Frag} {mg : Str → Option Value} {base : Heap} {f : Addr} {k : Nat} {sp__law_cell : Sp} (gd__law_cell : GD P w K mg base k "_law_cell" ["_law_script", "_law_k"] sp__law_cell) {sp__law_fixed_by : Sp} (gd__law_fixed_by : GD P w K mg base k "_law_fixed_by" ["_law_cell_here"] sp__law_fixed_by) {sp__law_part_by : Sp} (gd__law_part_by : GD P w K mg base k "_law_part_by" ["_law_cell_here"] sp__law_part_by) (mz_range : mg "range" = none) (mz_int : mg "int" = none) (cdv : Value) (A : Around) (outer : List Env) (s : Shared) (H : Hp) (E : XK)
    (hr : Room k (A.deeper (envOfC "_law_joins_by" (defScope s__law_joins_by) s.heap.objs.size f cdv))) :
    PSs (cxOf CX0 P w K mg base ["_law_script", "_law_k", "_law_part", "_law_more", "_law_seen", "_law_levels", "_law_j", "_law_mix", "_law_way", "_law_words", "_law_i", "_law_word", "_law_place", "_law_brackets"] "_law_joins_by" (defScope s__law_joins_by) f cdv A outer s H E).nox (defBody s__law_joins_by) (T__law_joins_by K sp__law_cell sp__law_fixed_by sp__law_part_by) :=
  (pss_cons (ps_set (i := 3) sc__law_joins_by.nd rfl (Or.inl rfl) (pe_gd gd__law_cell hr (by rfl) (pa_cons (pv 0) (pa_cons (pv 1) pa_nil))))
  (pss_cons (ps_set (i := 4) sc__law_joins_by.nd rfl (Or.inl rfl) (pe_lst pa_nil))
  (pss_cons (ps_set (i := 5) sc__law_joins_by.nd rfl (Or.inl rfl) (pe_lst pa_nil))
  (pss_cons (ps_for PassesOwn.never rfl (pi_range1 (by rfl) mz_range (pa_cons (pe_op (ou_add rfl) pe_int (pe_op ou_mod (pv 3) pe_int)) pa_nil)) (pg_name (i := 6) sc__law_joins_by.nd rfl (by first | exact Or.inl rfl | exact Or.inr rfl)) (pss_cons (ps_set (i := 7) sc__law_joins_by.nd rfl (Or.inl rfl) (pe_gd gd__law_cell hr (by rfl) (pa_cons (pv 0) (pa_cons (pe_op (ou_add rfl) (pe_op (ou_add rfl) (pv 1) pe_int) (pv 6)) pa_nil))))
  (pss_cons (ps_set (i := 8) sc__law_joins_by.nd rfl (Or.inl rfl) (pe_ix (ou_ix rfl) (pe_lst (pa_cons pe_str (pa_cons pe_str (pa_cons pe_str (pa_cons pe_str (pa_cons pe_str pa_nil)))))) (pe_op ou_mod (pv 7) pe_int) (fun _ _ => rfl)))
  (pss_cons (ps_set (i := 9) sc__law_joins_by.nd rfl (Or.inl rfl) (pe_lst pa_nil))
  (pss_cons (ps_for PassesOwn.never rfl (pi_range1 (by rfl) mz_range (pa_cons (pe_op (ou_add rfl) pe_int (pe_op ou_mod (pe_op ou_div (pv 7) pe_int) pe_int)) pa_nil)) (pg_name (i := 10) sc__law_joins_by.nd rfl (by first | exact Or.inl rfl | exact Or.inr rfl)) (pss_cons (ps_set (i := 11) sc__law_joins_by.nd rfl (Or.inl rfl) (pe_gd gd__law_fixed_by hr (by rfl) (pa_cons (pe_gd gd__law_cell hr (by rfl) (pa_cons (pv 0) (pa_cons (pe_op (ou_add rfl) (pe_op (ou_add rfl) (pe_op (ou_add rfl) (pv 1) pe_int) (pe_op ou_mul pe_int (pv 6))) (pv 10)) pa_nil))) pa_nil)))
  (pss_cons (ps_set (i := 12) sc__law_joins_by.nd rfl (Or.inl rfl) (pe_ix (ou_ix rfl) (pe_lst (pa_cons (pv 8) (pa_cons pe_str pa_nil))) (pe_callTy cu_int (by rfl) mz_int (by decide +kernel) (pa_cons (pe_cmpR ou_lt (pe_op ou_mod (pv 7) pe_int) pe_int (nomark _)) pa_nil)) (fun _ _ => rfl)))
  (pss_one (ps_if (pt_cmpR (ou_notin rfl (room65 hr)) (pe_tup (pa_cons (pv 12) (pa_cons (pv 11) pa_nil))) (pv 4) (by rfl)) (pss_cons (ps_expr (pe_bm PySem.F.plainAttrs_list PySem.F.slot_list_append PySem.F.type_list_append mt_append (pv 4) (pa_cons (pe_tup (pa_cons (pv 12) (pa_cons (pv 11) pa_nil))) pa_nil)))
  (pss_one (ps_expr (pe_bm PySem.F.plainAttrs_list PySem.F.slot_list_append PySem.F.type_list_append mt_append (pv 9) (pa_cons (pv 11) pa_nil))))) pss_nil)))))
  (pss_one (ps_if (pt_cmpR (ou_neL rfl (room64 hr)) (pv 9) (pe_lst pa_nil) (nomark _)) (pss_one (ps_expr (pe_bm PySem.F.plainAttrs_list PySem.F.slot_list_append PySem.F.type_list_append mt_append (pv 5) (pa_cons (pe_tup (pa_cons (pv 8) (pa_cons (pv 9) pa_nil))) pa_nil)))) pss_nil)))))))
  (pss_cons (ps_set (i := 13) sc__law_joins_by.nd rfl (Or.inl rfl) (pe_tup (pa_cons (pe_gd gd__law_fixed_by hr (by rfl) (pa_cons (pe_gd gd__law_cell hr (by rfl) (pa_cons (pv 0) (pa_cons (pe_op (ou_add rfl) (pv 1) pe_int) pa_nil))) pa_nil)) (pa_cons (pe_gd gd__law_fixed_by hr (by rfl) (pa_cons (pe_gd gd__law_cell hr (by rfl) (pa_cons (pv 0) (pa_cons (pe_op (ou_add rfl) (pv 1) pe_int) pa_nil))) pa_nil)) pa_nil))))
  (pss_one (ps_ret (pe_tup (pa_cons (pv 2) (pa_cons (pe_gd gd__law_part_by hr (by rfl) (pa_cons (pe_op ou_div (pv 3) pe_int) pa_nil)) (pa_cons (pv 13) (pa_cons (pv 5) pa_nil))))))))))))
/-! _law_size: slots 0 _law_told_here -/
abbrev s__law_size : Stmt := topS 56
theorem sc__law_size : FnScope ["_law_told_here"] ["_law_told_here"] (defScope s__law_size) := ⟨rfl, rfl, rfl, by decide +kernel, rfl, by decide +kernel, by decide +kernel⟩
def T__law_size (K : PySem.W.Frag) : TS :=
  (tSeq (tIfS (tTest (tOp (uIn K) (tOp (rIx K) (tVar 0) (tC (.int 0))) (tTup (tCons (tC (.str (Str.ofString "maybe"))) (tCons (tC (.str (Str.ofString "again"))) tNil))))) (tRet (tOp (uAdd K) (tC (.int 1)) (tCB (uLen K) (tCons (tOp (rIx K) (tVar 0) (tC (.int 1))) tNil)))) tNext)
  (tRet (tC (.int 1))))
theorem p__law_size {P : Program} {w : World} {K : PySem.W.Frag} {mg : Str → Option Value} {base : Heap} {f : Addr} {k : Nat} (mz_len : mg "len" = none) (cdv : Value) (A : Around) (outer : List Env) (s : Shared) (H : Hp) (E : XK)
    (hr : Room k (A.deeper (envOfC "_law_size" (defScope s__law_size) s.heap.objs.size f cdv))) :
    PSs (cxOf CX0 P w K mg base ["_law_told_here"] "_law_size" (defScope s__law_size) f cdv A outer s H E).nox (defBody s__law_size) (T__law_size K) :=
  (pss_cons (ps_if (pt_cmpR (ou_in rfl (room65 hr)) (pe_ix (ou_ix rfl) (pv 0) pe_int (fun _ _ => rfl)) (pe_tup (pa_cons pe_str (pa_cons pe_str pa_nil))) (by rfl)) (pss_one (ps_ret (pe_op (ou_add rfl) pe_int (pe_callB (cu_len rfl) (by rfl) mz_len (by decide +kernel) (pa_cons (pe_ix (ou_ix rfl) (pv 0) pe_int (fun _ _ => rfl)) pa_nil))))) pss_nil)
  (pss_one (ps_ret pe_int)))
/-! _law_grammar_by: slots 0 _law_script, 1 _law_first, 2 _law_most, 3 _law_choices, 4 _law_seen, 5 _law_joined, 6 _law_k, 7 _law_more, 8 _law_part, 9 _law_label, 10 _law_items, 11 _law_j, 12 _law_item, 13 _law_joins, 14 _law_one -/
abbrev s__law_grammar_by : Stmt := topS 57
theorem sc__law_grammar_by : FnScope ["_law_script", "_law_first", "_law_most", "_law_choices", "_law_seen", "_law_joined", "_law_k", "_law_more", "_law_part", "_law_label", "_law_items", "_law_j", "_law_item", "_law_joins", "_law_one"] ["_law_script", "_law_first", "_law_most"] (defScope s__law_grammar_by) := ⟨rfl, rfl, rfl, by decide +kernel, rfl, by decide +kernel, by decide +kernel⟩
def T__law_grammar_by (K : PySem.W.Frag) (sp__law_cell : Sp) (sp__law_label_by : Sp) (sp__law_item_by : Sp) (sp__law_size : Sp) (sp__law_joins_by : Sp) (sp__law_part_by : Sp) : TS :=
  (tSeq (tAsg (tLst tNil) (gName 3))
  (tSeq (tAsg (tLst tNil) (gName 4))
  (tSeq (tAsg (tSl (uSl K) (tLst (tCons (tC (.str (Str.ofString "term"))) (tCons (tC (.str (Str.ofString "list"))) tNil))) tNoPart (tPart (tOp uMod (tCall sp__law_cell [] E0 (tCons (tVar 0) (tCons (tVar 1) tNil))) (tC (.int 3))))) (gName 5))
  (tSeq (tFor (iRng1 (tCons (tOp (uAdd K) (tC (.int 1)) (tOp uMod (tCall sp__law_cell [] E0 (tCons (tVar 0) (tCons (tOp (uAdd K) (tVar 1) (tC (.int 1))) tNil))) (tVar 2))) tNil)) (gName 6) (tSeq (tAsg (tCall sp__law_cell [] E0 (tCons (tVar 0) (tCons (tOp (uAdd K) (tOp (uAdd K) (tVar 1) (tC (.int 10))) (tVar 6)) tNil))) (gName 7))
  (tSeq (tAsg (tOp (rIx K) (tLst (tCons (tC (.str (Str.ofString "a"))) (tCons (tC (.str (Str.ofString "b"))) (tCons (tC (.str (Str.ofString "c"))) (tCons (tC (.str (Str.ofString "expr"))) (tCons (tC (.str (Str.ofString "abcdefgh"))) (tCons (tC (.str (Str.ofString "stmt"))) tNil))))))) (tOp uMod (tVar 7) (tC (.int 6)))) (gName 8))
  (tSeq (tAsg (tCall sp__law_label_by [] E0 (tCons (tOp uDiv (tVar 7) (tC (.int 6))) tNil)) (gName 9))
  (tSeq (tAsg (tLst tNil) (gName 10))
  (tSeq (tFor (iRng1 (tCons (tOp uMod (tOp uDiv (tVar 7) (tC (.int 60))) (tC (.int 5))) tNil)) (gName 11) (tSeq (tAsg (tCall sp__law_item_by [] E0 (tCons (tVar 0) (tCons (tOp (uAdd K) (tOp (uAdd K) (tOp (uAdd K) (tVar 1) (tC (.int 100))) (tOp uMul (tC (.int 10)) (tVar 6))) (tVar 11)) tNil))) (gName 12))
  (tIfS (tTest (tOp uLe (tCB (rSum K) (tCons (tLc (iU K (tOp (uAdd K) (tVar 10) (tLst (tCons (tVar 12) tNil)))) (gName 14) tYes (tCall sp__law_size [] E0 (tCons (tVar 14) tNil)) [14]) tNil)) (tC (.int 8)))) (tDrop (tBM K "list" rAppend (tVar 10) (tCons (tVar 12) tNil))) tNext)))
  (tIfS (tTest (tOp (uNotIn K) (tTup (tCons (tVar 8) (tCons (tVar 9) tNil))) (tVar 4))) (tSeq (tDrop (tBM K "list" rAppend (tVar 4) (tCons (tTup (tCons (tVar 8) (tCons (tVar 9) tNil))) tNil)))
  (tDrop (tBM K "list" rAppend (tVar 3) (tCons (tTup (tCons (tVar 8) (tCons (tVar 9) (tCons (tVar 10) tNil)))) tNil)))) tNext)))))))
  (tSeq (tAsg (tLc (iRng1 (tCons (tCB (uLen K) (tCons (tVar 5) tNil)) tNil)) (gName 6) tYes (tCall sp__law_joins_by [] E0 (tCons (tVar 0) (tCons (tOp (uAdd K) (tOp (uAdd K) (tVar 1) (tC (.int 500))) (tOp uMul (tC (.int 400)) (tVar 6))) (tCons (tOp (rIx K) (tVar 5) (tVar 6)) tNil)))) [6]) (gName 13))
  (tRet (tTup (tCons (tCall sp__law_part_by [] E0 (tCons (tCall sp__law_cell [] E0 (tCons (tVar 0) (tCons (tOp (uAdd K) (tVar 1) (tC (.int 2))) tNil))) tNil)) (tCons (tVar 3) (tCons (tVar 13) tNil))))))))))
theorem p__law_grammar_by {P : Program} {w : World} {K : PySem.W.Frag} {mg : Str → Option Value} {base : Heap} {f : Addr} {k : Nat} {sp__law_cell : Sp} (gd__law_cell : GD P w K mg base k "_law_cell" ["_law_script", "_law_k"] sp__law_cell) {sp__law_label_by : Sp} (gd__law_label_by : GD P w K mg base k "_law_label_by" ["_law_cell_here"] sp__law_label_by) {sp__law_item_by : Sp} (gd__law_item_by : GD P w K mg base k "_law_item_by" ["_law_script", "_law_k"] sp__law_item_by) {sp__law_size : Sp} (gd__law_size : GD P w K mg base k "_law_size" ["_law_told_here"] sp__law_size) {sp__law_joins_by : Sp} (gd__law_joins_by : GD P w K mg base k "_law_joins_by" ["_law_script", "_law_k", "_law_part"] sp__law_joins_by) {sp__law_part_by : Sp} (gd__law_part_by : GD P w K mg base k "_law_part_by" ["_law_cell_here"] sp__law_part_by) (mz_range : mg "range" = none) (mz_sum : mg "sum" = none) (mz_len : mg "len" = none) (cdv : Value) (A : Around) (outer : List Env) (s : Shared) (H : Hp) (E : XK)
    (hr : Room k (A.deeper (envOfC "_law_grammar_by" (defScope s__law_grammar_by) s.heap.objs.size f cdv))) :
    PSs (cxOf CX0 P w K mg base ["_law_script", "_law_first", "_law_most", "_law_choices", "_law_seen", "_law_joined", "_law_k", "_law_more", "_law_part", "_law_label", "_law_items", "_law_j", "_law_item", "_law_joins", "_law_one"] "_law_grammar_by" (defScope s__law_grammar_by) f cdv A outer s H E).nox (defBody s__law_grammar_by) (T__law_grammar_by K sp__law_cell sp__law_label_by sp__law_item_by sp__law_size sp__law_joins_by sp__law_part_by) :=
  (pss_cons (ps_set (i := 3) sc__law_grammar_by.nd rfl (Or.inl rfl) (pe_lst pa_nil))
  (pss_cons (ps_set (i := 4) sc__law_grammar_by.nd rfl (Or.inl rfl) (pe_lst pa_nil))
  (pss_cons (ps_set (i := 5) sc__law_grammar_by.nd rfl (Or.inr rfl) (pe_slice (ou_sl rfl) (pe_lst (pa_cons pe_str (pa_cons pe_str pa_nil))) po_none (po_some (pe_op ou_mod (pe_gd gd__law_cell hr (by rfl) (pa_cons (pv 0) (pa_cons (pv 1) pa_nil))) pe_int))))
  (pss_cons (ps_for PassesOwn.never rfl (pi_range1 (by rfl) mz_range (pa_cons (pe_op (ou_add rfl) pe_int (pe_op ou_mod (pe_gd gd__law_cell hr (by rfl) (pa_cons (pv 0) (pa_cons (pe_op (ou_add rfl) (pv 1) pe_int) pa_nil))) (pv 2))) pa_nil)) (pg_name (i := 6) sc__law_grammar_by.nd rfl (by first | exact Or.inl rfl | exact Or.inr rfl)) (pss_cons (ps_set (i := 7) sc__law_grammar_by.nd rfl (Or.inl rfl) (pe_gd gd__law_cell hr (by rfl) (pa_cons (pv 0) (pa_cons (pe_op (ou_add rfl) (pe_op (ou_add rfl) (pv 1) pe_int) (pv 6)) pa_nil))))
  (pss_cons (ps_set (i := 8) sc__law_grammar_by.nd rfl (Or.inl rfl) (pe_ix (ou_ix rfl) (pe_lst (pa_cons pe_str (pa_cons pe_str (pa_cons pe_str (pa_cons pe_str (pa_cons pe_str (pa_cons pe_str pa_nil))))))) (pe_op ou_mod (pv 7) pe_int) (fun _ _ => rfl)))
  (pss_cons (ps_set (i := 9) sc__law_grammar_by.nd rfl (Or.inl rfl) (pe_gd gd__law_label_by hr (by rfl) (pa_cons (pe_op ou_div (pv 7) pe_int) pa_nil)))
  (pss_cons (ps_set (i := 10) sc__law_grammar_by.nd rfl (Or.inl rfl) (pe_lst pa_nil))
  (pss_cons (ps_for PassesOwn.never rfl (pi_range1 (by rfl) mz_range (pa_cons (pe_op ou_mod (pe_op ou_div (pv 7) pe_int) pe_int) pa_nil)) (pg_name (i := 11) sc__law_grammar_by.nd rfl (by first | exact Or.inl rfl | exact Or.inr rfl)) (pss_cons (ps_set (i := 12) sc__law_grammar_by.nd rfl (Or.inl rfl) (pe_gd gd__law_item_by hr (by rfl) (pa_cons (pv 0) (pa_cons (pe_op (ou_add rfl) (pe_op (ou_add rfl) (pe_op (ou_add rfl) (pv 1) pe_int) (pe_op ou_mul pe_int (pv 6))) (pv 11)) pa_nil))))
  (pss_one (ps_if (pt_cmpR ou_le (pe_callB (cu_sum rfl rfl) (by rfl) mz_sum (by decide +kernel) (pa_cons (pe_lc (own := [("_law_one", 14)]) (g := (gName 14)) (tt := tYes) (te := (tCall sp__law_size [] E0 (tCons (tVar 14) tNil))) rfl sc__law_grammar_by.nd (pi_u rfl (pe_op (ou_add rfl) (pv 10) (pe_lst (pa_cons (pv 12) pa_nil)))) (blkOk_by (own := [("_law_one", 14)]) (N := ["_law_script", "_law_first", "_law_most", "_law_choices", "_law_seen", "_law_joined", "_law_k", "_law_more", "_law_part", "_law_label", "_law_items", "_law_j", "_law_item", "_law_joins", "_law_one"]) (sc := defScope s__law_grammar_by) (by decide +kernel)) (fun _ _ _ _ _ => (pg_name (i := 14) sc__law_grammar_by.nd rfl (by first | exact Or.inl rfl | exact Or.inr rfl))) (fun _ _ _ _ _ => pts_nil) (fun _ _ _ _ _ => (pe_gd gd__law_size hr (by rfl) (pa_cons (pv 14) pa_nil)))) pa_nil)) pe_int (nomark _)) (pss_one (ps_expr (pe_bm PySem.F.plainAttrs_list PySem.F.slot_list_append PySem.F.type_list_append mt_append (pv 10) (pa_cons (pv 12) pa_nil)))) pss_nil))))
  (pss_one (ps_if (pt_cmpR (ou_notin rfl (room65 hr)) (pe_tup (pa_cons (pv 8) (pa_cons (pv 9) pa_nil))) (pv 4) (by rfl)) (pss_cons (ps_expr (pe_bm PySem.F.plainAttrs_list PySem.F.slot_list_append PySem.F.type_list_append mt_append (pv 4) (pa_cons (pe_tup (pa_cons (pv 8) (pa_cons (pv 9) pa_nil))) pa_nil)))
  (pss_one (ps_expr (pe_bm PySem.F.plainAttrs_list PySem.F.slot_list_append PySem.F.type_list_append mt_append (pv 3) (pa_cons (pe_tup (pa_cons (pv 8) (pa_cons (pv 9) (pa_cons (pv 10) pa_nil)))) pa_nil))))) pss_nil))))))))
  (pss_cons (ps_setLc (i := 13) (own := [("_law_k", 6)]) (g := (gName 6)) (tt := tYes) (te := (tCall sp__law_joins_by [] E0 (tCons (tVar 0) (tCons (tOp (uAdd K) (tOp (uAdd K) (tVar 1) (tC (.int 500))) (tOp uMul (tC (.int 400)) (tVar 6))) (tCons (tOp (rIx K) (tVar 5) (tVar 6)) tNil))))) rfl sc__law_grammar_by.nd rfl rfl (sw_true rfl rfl rfl (by decide +kernel)) (pi_range1 (by rfl) mz_range (pa_cons (pe_callB (cu_len rfl) (by rfl) mz_len (by decide +kernel) (pa_cons (pv 5) pa_nil)) pa_nil)) (blkOk_by (own := [("_law_k", 6)]) (N := ["_law_script", "_law_first", "_law_most", "_law_choices", "_law_seen", "_law_joined", "_law_k", "_law_more", "_law_part", "_law_label", "_law_items", "_law_j", "_law_item", "_law_joins", "_law_one"]) (sc := defScope s__law_grammar_by) (by decide +kernel)) (fun _ _ _ _ _ => (pg_name (i := 6) sc__law_grammar_by.nd rfl (by first | exact Or.inl rfl | exact Or.inr rfl))) (fun _ _ _ _ _ => pts_nil) (fun _ _ _ _ _ => (pe_gd gd__law_joins_by hr (by rfl) (pa_cons (pv 0) (pa_cons (pe_op (ou_add rfl) (pe_op (ou_add rfl) (pv 1) pe_int) (pe_op ou_mul pe_int (pv 6))) (pa_cons (pe_ix (ou_ix rfl) (pv 5) (pv 6) (fun _ _ => rfl)) pa_nil))))))
  (pss_one (ps_ret (pe_tup (pa_cons (pe_gd gd__law_part_by hr (by rfl) (pa_cons (pe_gd gd__law_cell hr (by rfl) (pa_cons (pv 0) (pa_cons (pe_op (ou_add rfl) (pv 1) pe_int) pa_nil))) pa_nil)) (pa_cons (pv 3) (pa_cons (pv 13) pa_nil)))))))))))
/-! _law_made: slots 0 _law_told_here, 1 _law_start, 2 _law_choices, 3 _law_joins, 4 _law_made_here, 5 _law_part, 6 _law_label, 7 _law_items, 8 _law_joined, 9 _law_of, 10 _law_brackets, 11 _law_levels, 12 _law_turned, 13 _law_item, 14 _law_one, 15 _law_way, 16 _law_words -/
abbrev s__law_made : Stmt := topS 58
theorem sc__law_made : FnScope ["_law_told_here", "_law_start", "_law_choices", "_law_joins", "_law_made_here", "_law_part", "_law_label", "_law_items", "_law_joined", "_law_of", "_law_brackets", "_law_levels", "_law_turned", "_law_item", "_law_one", "_law_way", "_law_words"] ["_law_told_here"] (defScope s__law_made) := ⟨rfl, rfl, rfl, by decide +kernel, rfl, by decide +kernel, by decide +kernel⟩
def T__law_made (K : PySem.W.Frag) (sp__law_made_item : Sp) (x_Choice : Addr) (x_Grammar : Addr) (x_Joins : Addr) (sp_Choice_0 : Sp) (sp_Grammar_0 : Sp) (sp_Joins_0 : Sp) : TS :=
  (tSeq (tAsg (tVar 0) (gTup K 3 (gCons (gName 1) (gCons (gName 2) (gCons (gName 3) gNil)))))
  (tSeq (tAsg (tLst tNil) (gName 4))
  (tSeq (tFor (iU K (tVar 2)) (gTup K 3 (gCons (gName 5) (gCons (gName 6) (gCons (gName 7) gNil)))) (tDrop (tBM K "list" rAppend (tVar 4) (tCons (tMkU x_Choice sp_Choice_0 [] (fun _ => E0) (tCons (tVar 5) (tCons (tVar 6) (tCons (tLc (iU K (tVar 7)) (gName 13) tYes (tCall sp__law_made_item [] E0 (tCons (tVar 13) tNil)) [13]) tNil)))) tNil))))
  (tSeq (tIfS (tTest (tOp (uEq K) (tOp uMod (tCB (uLen K) (tCons (tVar 2) tNil)) (tC (.int 2))) (tC (.int 0)))) (tRet (tMkU x_Grammar sp_Grammar_0 [] (fun _ => E0) (tCons (tVar 1) (tCons (tVar 4) (tCons (tLc (iU K (tVar 3)) (gName 14) tYes (tMkU x_Joins sp_Joins_0 [] (fun _ => E0) (tCons (tOp (rIx K) (tVar 14) (tC (.int 0))) (tCons (tOp (rIx K) (tVar 14) (tC (.int 1))) (tCons (tOp (rIx K) (tVar 14) (tC (.int 2))) (tCons (tOp (rIx K) (tVar 14) (tC (.int 3))) tNil))))) [14]) tNil))))) tNext)
  (tSeq (tAsg (tCB (uTuple K) (tCons (tLc (iU K (tVar 4)) (gName 14) tYes (tMkU x_Choice sp_Choice_0 [] (fun _ => E0) (tCons (tAt K "part" (tVar 14)) (tCons (tAt K "label" (tVar 14)) (tCons (tCB (uTuple K) (tCons (tAt K "things" (tVar 14)) tNil)) tNil)))) [14]) tNil)) (gName 4))
  (tSeq (tAsg (tLst tNil) (gName 8))
  (tSeq (tFor (iU K (tVar 3)) (gTup K 4 (gCons (gName 5) (gCons (gName 9) (gCons (gName 10) (gCons (gName 11) gNil))))) (tSeq (tAsg (tCB (uTuple K) (tCons (tLc (iU K (tVar 11)) (gTup K 2 (gCons (gName 15) (gCons (gName 16) gNil))) tYes (tTup (tCons (tVar 15) (tCons (tCB (uTuple K) (tCons (tVar 16) tNil)) tNil))) [15, 16]) tNil)) (gName 12))
  (tDrop (tBM K "list" rAppend (tVar 8) (tCons (tMkU x_Joins sp_Joins_0 [] (fun _ => E0) (tCons (tVar 5) (tCons (tVar 9) (tCons (tCB (uList K) (tCons (tVar 10) tNil)) (tCons (tVar 12) tNil))))) tNil)))))
  (tRet (tMkU x_Grammar sp_Grammar_0 [] (fun _ => E0) (tCons (tVar 1) (tCons (tVar 4) (tCons (tCB (uTuple K) (tCons (tVar 8) tNil)) tNil))))))))))))
theorem p__law_made {P : Program} {w : World} {K : PySem.W.Frag} {mg : Str → Option Value} {base : Heap} {f : Addr} {k : Nat} {sp__law_made_item : Sp} (gd__law_made_item : GX P w K mg base k "_law_made_item" ["_law_told_here"] sp__law_made_item) {x_Choice : Addr} {x_Grammar : Addr} {x_Joins : Addr} {sp_Choice_0 : Sp} {kc_Choice_0 : Nat} (cd_Choice_0 : CD P w K mg base kc_Choice_0 "Choice" x_Choice [] sp_Choice_0) (hk_Choice_0 : kc_Choice_0 + 1 ≤ k) {sp_Grammar_0 : Sp} {kc_Grammar_0 : Nat} (cd_Grammar_0 : CD P w K mg base kc_Grammar_0 "Grammar" x_Grammar [] sp_Grammar_0) (hk_Grammar_0 : kc_Grammar_0 + 1 ≤ k) {sp_Joins_0 : Sp} {kc_Joins_0 : Nat} (cd_Joins_0 : CD P w K mg base kc_Joins_0 "Joins" x_Joins [] sp_Joins_0) (hk_Joins_0 : kc_Joins_0 + 1 ≤ k) (kp_Choice : PySem.W.keepIn K (.ref x_Choice) = true) (kp_Grammar : PySem.W.keepIn K (.ref x_Grammar) = true) (kp_Joins : PySem.W.keepIn K (.ref x_Joins) = true) (mz_len : mg "len" = none) (mz_tuple : mg "tuple" = none) (mz_list : mg "list" = none) (cdv : Value) (A : Around) (outer : List Env) (s : Shared) (H : Hp) (E : XK)
    (hr : Room k (A.deeper (envOfC "_law_made" (defScope s__law_made) s.heap.objs.size f cdv))) :
    PSs (cxOf CX0 P w K mg base ["_law_told_here", "_law_start", "_law_choices", "_law_joins", "_law_made_here", "_law_part", "_law_label", "_law_items", "_law_joined", "_law_of", "_law_brackets", "_law_levels", "_law_turned", "_law_item", "_law_one", "_law_way", "_law_words"] "_law_made" (defScope s__law_made) f cdv A outer s H E).nox (defBody s__law_made) (T__law_made K sp__law_made_item x_Choice x_Grammar x_Joins sp_Choice_0 sp_Grammar_0 sp_Joins_0) :=
  (pss_cons (ps_asg (pv 0) (pg_tup (by rfl) (pgs_cons (pg_name (i := 1) sc__law_made.nd rfl (by first | exact Or.inl rfl | exact Or.inr rfl)) (pgs_cons (pg_name (i := 2) sc__law_made.nd rfl (by first | exact Or.inl rfl | exact Or.inr rfl)) (pgs_cons (pg_name (i := 3) sc__law_made.nd rfl (by first | exact Or.inl rfl | exact Or.inr rfl)) pgs_nil)))))
  (pss_cons (ps_set (i := 4) sc__law_made.nd rfl (Or.inl rfl) (pe_lst pa_nil))
  (pss_cons (ps_for PassesOwn.never rfl (pi_u rfl (pv 2)) (pg_tup (by rfl) (pgs_cons (pg_name (i := 5) sc__law_made.nd rfl (by first | exact Or.inl rfl | exact Or.inr rfl)) (pgs_cons (pg_name (i := 6) sc__law_made.nd rfl (by first | exact Or.inl rfl | exact Or.inr rfl)) (pgs_cons (pg_name (i := 7) sc__law_made.nd rfl (by first | exact Or.inl rfl | exact Or.inr rfl)) pgs_nil)))) (pss_one (ps_expr (pe_bm PySem.F.plainAttrs_list PySem.F.slot_list_append PySem.F.type_list_append mt_append (pv 4) (pa_cons (pe_mkU cd_Choice_0 (fun σ => passL0 σ) (hr.mono hk_Choice_0) (by rfl) kp_Choice (pa_cons (pv 5) (pa_cons (pv 6) (pa_cons (pe_lc (own := [("_law_item", 13)]) (g := (gName 13)) (tt := tYes) (te := (tCall sp__law_made_item [] E0 (tCons (tVar 13) tNil))) rfl sc__law_made.nd (pi_u rfl (pv 7)) (blkOk_by (own := [("_law_item", 13)]) (N := ["_law_told_here", "_law_start", "_law_choices", "_law_joins", "_law_made_here", "_law_part", "_law_label", "_law_items", "_law_joined", "_law_of", "_law_brackets", "_law_levels", "_law_turned", "_law_item", "_law_one", "_law_way", "_law_words"]) (sc := defScope s__law_made) (by decide +kernel)) (fun _ _ _ _ _ => (pg_name (i := 13) sc__law_made.nd rfl (by first | exact Or.inl rfl | exact Or.inr rfl))) (fun _ _ _ _ _ => pts_nil) (fun _ _ _ _ _ => (pe_gx0 gd__law_made_item hr (by rfl) (pa_cons (pv 13) pa_nil)))) pa_nil)))) pa_nil)))))
  (pss_cons (ps_if (pt_cmpR (ou_eq rfl (room64 hr)) (pe_op ou_mod (pe_callB (cu_len rfl) (by rfl) mz_len (by decide +kernel) (pa_cons (pv 2) pa_nil)) pe_int) pe_int (nomark _)) (pss_one (ps_ret (pe_mkU cd_Grammar_0 (fun σ => passL0 σ) (hr.mono hk_Grammar_0) (by rfl) kp_Grammar (pa_cons (pv 1) (pa_cons (pv 4) (pa_cons (pe_lc (own := [("_law_one", 14)]) (g := (gName 14)) (tt := tYes) (te := (tMkU x_Joins sp_Joins_0 [] (fun _ => E0) (tCons (tOp (rIx K) (tVar 14) (tC (.int 0))) (tCons (tOp (rIx K) (tVar 14) (tC (.int 1))) (tCons (tOp (rIx K) (tVar 14) (tC (.int 2))) (tCons (tOp (rIx K) (tVar 14) (tC (.int 3))) tNil)))))) rfl sc__law_made.nd (pi_u rfl (pv 3)) (blkOk_by (own := [("_law_one", 14)]) (N := ["_law_told_here", "_law_start", "_law_choices", "_law_joins", "_law_made_here", "_law_part", "_law_label", "_law_items", "_law_joined", "_law_of", "_law_brackets", "_law_levels", "_law_turned", "_law_item", "_law_one", "_law_way", "_law_words"]) (sc := defScope s__law_made) (by decide +kernel)) (fun _ _ _ _ _ => (pg_name (i := 14) sc__law_made.nd rfl (by first | exact Or.inl rfl | exact Or.inr rfl))) (fun _ _ _ _ _ => pts_nil) (fun _ _ _ _ _ => (pe_mkU cd_Joins_0 (fun σ => passL0 σ) (hr.mono hk_Joins_0) (by rfl) kp_Joins (pa_cons (pe_ix (ou_ix rfl) (pv 14) pe_int (fun _ _ => rfl)) (pa_cons (pe_ix (ou_ix rfl) (pv 14) pe_int (fun _ _ => rfl)) (pa_cons (pe_ix (ou_ix rfl) (pv 14) pe_int (fun _ _ => rfl)) (pa_cons (pe_ix (ou_ix rfl) (pv 14) pe_int (fun _ _ => rfl)) pa_nil))))))) pa_nil)))))) pss_nil)
  (pss_cons (ps_set (i := 4) sc__law_made.nd rfl (Or.inl rfl) (pe_callTy (cu_tuple rfl) (by rfl) mz_tuple (by decide +kernel) (pa_cons (pe_lc (own := [("_law_one", 14)]) (g := (gName 14)) (tt := tYes) (te := (tMkU x_Choice sp_Choice_0 [] (fun _ => E0) (tCons (tAt K "part" (tVar 14)) (tCons (tAt K "label" (tVar 14)) (tCons (tCB (uTuple K) (tCons (tAt K "things" (tVar 14)) tNil)) tNil))))) rfl sc__law_made.nd (pi_u rfl (pv 4)) (blkOk_by (own := [("_law_one", 14)]) (N := ["_law_told_here", "_law_start", "_law_choices", "_law_joins", "_law_made_here", "_law_part", "_law_label", "_law_items", "_law_joined", "_law_of", "_law_brackets", "_law_levels", "_law_turned", "_law_item", "_law_one", "_law_way", "_law_words"]) (sc := defScope s__law_made) (by decide +kernel)) (fun _ _ _ _ _ => (pg_name (i := 14) sc__law_made.nd rfl (by first | exact Or.inl rfl | exact Or.inr rfl))) (fun _ _ _ _ _ => pts_nil) (fun _ _ _ _ _ => (pe_mkU cd_Choice_0 (fun σ => passL0 σ) (hr.mono hk_Choice_0) (by rfl) kp_Choice (pa_cons (pe_at rfl (pv 14)) (pa_cons (pe_at rfl (pv 14)) (pa_cons (pe_callTy (cu_tuple rfl) (by rfl) mz_tuple (by decide +kernel) (pa_cons (pe_at rfl (pv 14)) pa_nil)) pa_nil)))))) pa_nil)))
  (pss_cons (ps_set (i := 8) sc__law_made.nd rfl (Or.inl rfl) (pe_lst pa_nil))
  (pss_cons (ps_for PassesOwn.never rfl (pi_u rfl (pv 3)) (pg_tup (by rfl) (pgs_cons (pg_name (i := 5) sc__law_made.nd rfl (by first | exact Or.inl rfl | exact Or.inr rfl)) (pgs_cons (pg_name (i := 9) sc__law_made.nd rfl (by first | exact Or.inl rfl | exact Or.inr rfl)) (pgs_cons (pg_name (i := 10) sc__law_made.nd rfl (by first | exact Or.inl rfl | exact Or.inr rfl)) (pgs_cons (pg_name (i := 11) sc__law_made.nd rfl (by first | exact Or.inl rfl | exact Or.inr rfl)) pgs_nil))))) (pss_cons (ps_set (i := 12) sc__law_made.nd rfl (Or.inl rfl) (pe_callTy (cu_tuple rfl) (by rfl) mz_tuple (by decide +kernel) (pa_cons (pe_lc (own := [("_law_way", 15), ("_law_words", 16)]) (g := (gTup K 2 (gCons (gName 15) (gCons (gName 16) gNil)))) (tt := tYes) (te := (tTup (tCons (tVar 15) (tCons (tCB (uTuple K) (tCons (tVar 16) tNil)) tNil)))) rfl sc__law_made.nd (pi_u rfl (pv 11)) (blkOk_by (own := [("_law_way", 15), ("_law_words", 16)]) (N := ["_law_told_here", "_law_start", "_law_choices", "_law_joins", "_law_made_here", "_law_part", "_law_label", "_law_items", "_law_joined", "_law_of", "_law_brackets", "_law_levels", "_law_turned", "_law_item", "_law_one", "_law_way", "_law_words"]) (sc := defScope s__law_made) (by decide +kernel)) (fun _ _ _ _ _ => (pg_tup (by rfl) (pgs_cons (pg_name (i := 15) sc__law_made.nd rfl (by first | exact Or.inl rfl | exact Or.inr rfl)) (pgs_cons (pg_name (i := 16) sc__law_made.nd rfl (by first | exact Or.inl rfl | exact Or.inr rfl)) pgs_nil)))) (fun _ _ _ _ _ => pts_nil) (fun _ _ _ _ _ => (pe_tup (pa_cons (pv 15) (pa_cons (pe_callTy (cu_tuple rfl) (by rfl) mz_tuple (by decide +kernel) (pa_cons (pv 16) pa_nil)) pa_nil))))) pa_nil)))
  (pss_one (ps_expr (pe_bm PySem.F.plainAttrs_list PySem.F.slot_list_append PySem.F.type_list_append mt_append (pv 8) (pa_cons (pe_mkU cd_Joins_0 (fun σ => passL0 σ) (hr.mono hk_Joins_0) (by rfl) kp_Joins (pa_cons (pv 5) (pa_cons (pv 9) (pa_cons (pe_callTy (cu_list rfl) (by rfl) mz_list (by decide +kernel) (pa_cons (pv 10) pa_nil)) (pa_cons (pv 12) pa_nil))))) pa_nil))))))
  (pss_one (ps_ret (pe_mkU cd_Grammar_0 (fun σ => passL0 σ) (hr.mono hk_Grammar_0) (by rfl) kp_Grammar (pa_cons (pv 1) (pa_cons (pv 4) (pa_cons (pe_callTy (cu_tuple rfl) (by rfl) mz_tuple (by decide +kernel) (pa_cons (pv 8) pa_nil)) pa_nil)))))))))))))
/-! _law_told: slots 0 _law_grammar, 1 _law_choices, 2 _law_joins, 3 _law_one, 4 _law_levels, 5 _law_item, 6 _law_way, 7 _law_words -/
abbrev s__law_told : Stmt := topS 59
theorem sc__law_told : FnScope ["_law_grammar", "_law_choices", "_law_joins", "_law_one", "_law_levels", "_law_item", "_law_way", "_law_words"] ["_law_grammar"] (defScope s__law_told) := ⟨rfl, rfl, rfl, by decide +kernel, rfl, by decide +kernel, by decide +kernel⟩
def T__law_told (K : PySem.W.Frag) (ms_told : List (Addr × Sp)) : TS :=
  (tSeq (tAsg (tLc (iU K (tAt K "choices" (tVar 0))) (gName 3) tYes (tTup (tCons (tAt K "part" (tVar 3)) (tCons (tAt K "label" (tVar 3)) (tCons (tLc (iU K (tAt K "things" (tVar 3))) (gName 5) tYes (tMu ms_told "told" (fun _ => E0) (tVar 5) tNil) [5]) tNil)))) [3]) (gName 1))
  (tSeq (tAsg (tLst tNil) (gName 2))
  (tSeq (tFor (iU K (tAt K "joins" (tVar 0))) (gName 3) (tSeq (tAsg (tLc (iU K (tAt K "levels" (tVar 3))) (gTup K 2 (gCons (gName 6) (gCons (gName 7) gNil))) tYes (tTup (tCons (tVar 6) (tCons (tCB (uList K) (tCons (tVar 7) tNil)) tNil))) [6, 7]) (gName 4))
  (tDrop (tBM K "list" rAppend (tVar 2) (tCons (tTup (tCons (tAt K "part" (tVar 3)) (tCons (tAt K "of" (tVar 3)) (tCons (tAt K "brackets" (tVar 3)) (tCons (tVar 4) tNil))))) tNil)))))
  (tRet (tTup (tCons (tAt K "start" (tVar 0)) (tCons (tVar 1) (tCons (tVar 2) tNil))))))))
theorem p__law_told {P : Program} {w : World} {K : PySem.W.Frag} {mg : Str → Option Value} {base : Heap} {f : Addr} {k : Nat} {ms_told : List (Addr × Sp)} (md_told : MDs P w K mg base k "told" ms_told) (mz_list : mg "list" = none) (cdv : Value) (A : Around) (outer : List Env) (s : Shared) (H : Hp) (E : XK)
    (hr : Room k (A.deeper (envOfC "_law_told" (defScope s__law_told) s.heap.objs.size f cdv))) :
    PSs (cxOf CX0 P w K mg base ["_law_grammar", "_law_choices", "_law_joins", "_law_one", "_law_levels", "_law_item", "_law_way", "_law_words"] "_law_told" (defScope s__law_told) f cdv A outer s H E).nox (defBody s__law_told) (T__law_told K ms_told) :=
  (pss_cons (ps_setLc (i := 1) (own := [("_law_one", 3)]) (g := (gName 3)) (tt := tYes) (te := (tTup (tCons (tAt K "part" (tVar 3)) (tCons (tAt K "label" (tVar 3)) (tCons (tLc (iU K (tAt K "things" (tVar 3))) (gName 5) tYes (tMu ms_told "told" (fun _ => E0) (tVar 5) tNil) [5]) tNil))))) rfl sc__law_told.nd rfl rfl (sw_true rfl rfl rfl (by decide +kernel)) (pi_u rfl (pe_at rfl (pv 0))) (blkOk_by (own := [("_law_one", 3)]) (N := ["_law_grammar", "_law_choices", "_law_joins", "_law_one", "_law_levels", "_law_item", "_law_way", "_law_words"]) (sc := defScope s__law_told) (by decide +kernel)) (fun _ _ _ _ _ => (pg_name (i := 3) sc__law_told.nd rfl (by first | exact Or.inl rfl | exact Or.inr rfl))) (fun _ _ _ _ _ => pts_nil) (fun _ _ _ _ _ => (pe_tup (pa_cons (pe_at rfl (pv 3)) (pa_cons (pe_at rfl (pv 3)) (pa_cons (pe_lc (own := [("_law_item", 5)]) (g := (gName 5)) (tt := tYes) (te := (tMu ms_told "told" (fun _ => E0) (tVar 5) tNil)) rfl sc__law_told.nd (pi_u rfl (pe_at rfl (pv 3))) (by exact blkOk_by (by kernel_rfl)) (fun _ _ _ _ _ => (pg_name (i := 5) sc__law_told.nd rfl (by first | exact Or.inl rfl | exact Or.inr rfl))) (fun _ _ _ _ _ => pts_nil) (fun _ _ _ _ _ => (pe_mu0 md_told (fun σ => passL0 σ) hr (pv 5)))) pa_nil))))))
  (pss_cons (ps_set (i := 2) sc__law_told.nd rfl (Or.inl rfl) (pe_lst pa_nil))
  (pss_cons (ps_for PassesOwn.never rfl (pi_u rfl (pe_at rfl (pv 0))) (pg_name (i := 3) sc__law_told.nd rfl (by first | exact Or.inl rfl | exact Or.inr rfl)) (pss_cons (ps_setLc (i := 4) (own := [("_law_way", 6), ("_law_words", 7)]) (g := (gTup K 2 (gCons (gName 6) (gCons (gName 7) gNil)))) (tt := tYes) (te := (tTup (tCons (tVar 6) (tCons (tCB (uList K) (tCons (tVar 7) tNil)) tNil)))) rfl sc__law_told.nd rfl rfl (sw_true rfl rfl rfl (by decide +kernel)) (pi_u rfl (pe_at rfl (pv 3))) (blkOk_by (own := [("_law_way", 6), ("_law_words", 7)]) (N := ["_law_grammar", "_law_choices", "_law_joins", "_law_one", "_law_levels", "_law_item", "_law_way", "_law_words"]) (sc := defScope s__law_told) (by decide +kernel)) (fun _ _ _ _ _ => (pg_tup (by rfl) (pgs_cons (pg_name (i := 6) sc__law_told.nd rfl (by first | exact Or.inl rfl | exact Or.inr rfl)) (pgs_cons (pg_name (i := 7) sc__law_told.nd rfl (by first | exact Or.inl rfl | exact Or.inr rfl)) pgs_nil)))) (fun _ _ _ _ _ => pts_nil) (fun _ _ _ _ _ => (pe_tup (pa_cons (pv 6) (pa_cons (pe_callTy (cu_list rfl) (by rfl) mz_list (by decide +kernel) (pa_cons (pv 7) pa_nil)) pa_nil)))))
  (pss_one (ps_expr (pe_bm PySem.F.plainAttrs_list PySem.F.slot_list_append PySem.F.type_list_append mt_append (pv 2) (pa_cons (pe_tup (pa_cons (pe_at rfl (pv 3)) (pa_cons (pe_at rfl (pv 3)) (pa_cons (pe_at rfl (pv 3)) (pa_cons (pv 4) pa_nil))))) pa_nil))))))
  (pss_one (ps_ret (pe_tup (pa_cons (pe_at rfl (pv 0)) (pa_cons (pv 1) (pa_cons (pv 2) pa_nil)))))))))
/-! _law_rows: slots 0 _law_told_here, 1 _law_start, 2 _law_choices, 3 _law_joins, 4 _law_rows_here, 5 _law_part, 6 _law_label, 7 _law_items, 8 _law_of, 9 _law_brackets, 10 _law_levels, 11 _law_pair, 12 _law_way, 13 _law_words, 14 _law_item, 15 _law_word -/
abbrev s__law_rows : Stmt := topS 60
theorem sc__law_rows : FnScope ["_law_told_here", "_law_start", "_law_choices", "_law_joins", "_law_rows_here", "_law_part", "_law_label", "_law_items", "_law_of", "_law_brackets", "_law_levels", "_law_pair", "_law_way", "_law_words", "_law_item", "_law_word"] ["_law_told_here"] (defScope s__law_rows) := ⟨rfl, rfl, rfl, by decide +kernel, rfl, by decide +kernel, by decide +kernel⟩
def T__law_rows (K : PySem.W.Frag) (sp__law_item_text : Sp) : TS :=
  (tSeq (tAsg (tVar 0) (gTup K 3 (gCons (gName 1) (gCons (gName 2) (gCons (gName 3) gNil)))))
  (tSeq (tAsg (tLst (tCons (tOp (uAdd K) (tC (.str (Str.ofString "start "))) (tVar 1)) tNil)) (gName 4))
  (tSeq (tFor (iU K (tVar 2)) (gTup K 3 (gCons (gName 5) (gCons (gName 6) (gCons (gName 7) gNil)))) (tDrop (tBM K "list" rAppend (tVar 4) (tCons (tM1 (uJoin K) (tC (.str (Str.ofString " "))) (tOp (uAdd K) (tLst (tCons (tVar 5) (tCons (tVar 6) (tCons (tC (.str (Str.ofString "="))) tNil)))) (tLc (iU K (tVar 7)) (gName 14) tYes (tCall sp__law_item_text [] E0 (tCons (tVar 14) tNil)) [14]))) tNil))))
  (tSeq (tFor (iU K (tVar 3)) (gTup K 4 (gCons (gName 5) (gCons (gName 8) (gCons (gName 9) (gCons (gName 10) gNil))))) (tSeq (tAsg (tM1 (uJoin K) (tC (.str (Str.ofString " "))) (tLc (iU K (tVar 9)) (gName 15) tYes (tOp (uAdd K) (tOp (uAdd K) (tC (.str (Str.ofString "'"))) (tVar 15)) (tC (.str (Str.ofString "'")))) [15])) (gName 11))
  (tSeq (tDrop (tBM K "list" rAppend (tVar 4) (tCons (tOp (uAdd K) (tOp (uAdd K) (tOp (uAdd K) (tOp (uAdd K) (tVar 5) (tC (.str (Str.ofString " joins ")))) (tVar 8)) (tC (.str (Str.ofString " in ")))) (tVar 11)) tNil)))
  (tFor (iU K (tVar 10)) (gTup K 2 (gCons (gName 12) (gCons (gName 13) gNil))) (tDrop (tBM K "list" rAppend (tVar 4) (tCons (tM1 (uJoin K) (tC (.str (Str.ofString " "))) (tOp (uAdd K) (tLst (tCons (tVar 12) tNil)) (tLc (iU K (tVar 13)) (gName 15) tYes (tOp (uAdd K) (tOp (uAdd K) (tC (.str (Str.ofString "'"))) (tVar 15)) (tC (.str (Str.ofString "'")))) [15]))) tNil)))))))
  (tRet (tVar 4))))))
theorem p__law_rows {P : Program} {w : World} {K : PySem.W.Frag} {mg : Str → Option Value} {base : Heap} {f : Addr} {k : Nat} {sp__law_item_text : Sp} (gd__law_item_text : GD P w K mg base k "_law_item_text" ["_law_told_here"] sp__law_item_text) (cdv : Value) (A : Around) (outer : List Env) (s : Shared) (H : Hp) (E : XK)
    (hr : Room k (A.deeper (envOfC "_law_rows" (defScope s__law_rows) s.heap.objs.size f cdv))) :
    PSs (cxOf CX0 P w K mg base ["_law_told_here", "_law_start", "_law_choices", "_law_joins", "_law_rows_here", "_law_part", "_law_label", "_law_items", "_law_of", "_law_brackets", "_law_levels", "_law_pair", "_law_way", "_law_words", "_law_item", "_law_word"] "_law_rows" (defScope s__law_rows) f cdv A outer s H E).nox (defBody s__law_rows) (T__law_rows K sp__law_item_text) :=
  (pss_cons (ps_asg (pv 0) (pg_tup (by rfl) (pgs_cons (pg_name (i := 1) sc__law_rows.nd rfl (by first | exact Or.inl rfl | exact Or.inr rfl)) (pgs_cons (pg_name (i := 2) sc__law_rows.nd rfl (by first | exact Or.inl rfl | exact Or.inr rfl)) (pgs_cons (pg_name (i := 3) sc__law_rows.nd rfl (by first | exact Or.inl rfl | exact Or.inr rfl)) pgs_nil)))))
  (pss_cons (ps_set (i := 4) sc__law_rows.nd rfl (Or.inl rfl) (pe_lst (pa_cons (pe_op (ou_add rfl) pe_str (pv 1)) pa_nil)))
  (pss_cons (ps_for PassesOwn.never rfl (pi_u rfl (pv 2)) (pg_tup (by rfl) (pgs_cons (pg_name (i := 5) sc__law_rows.nd rfl (by first | exact Or.inl rfl | exact Or.inr rfl)) (pgs_cons (pg_name (i := 6) sc__law_rows.nd rfl (by first | exact Or.inl rfl | exact Or.inr rfl)) (pgs_cons (pg_name (i := 7) sc__law_rows.nd rfl (by first | exact Or.inl rfl | exact Or.inr rfl)) pgs_nil)))) (pss_one (ps_expr (pe_bm PySem.F.plainAttrs_list PySem.F.slot_list_append PySem.F.type_list_append mt_append (pv 4) (pa_cons (pe_ujoin rfl pe_str (pe_op (ou_add rfl) (pe_lst (pa_cons (pv 5) (pa_cons (pv 6) (pa_cons pe_str pa_nil)))) (pe_lc (own := [("_law_item", 14)]) (g := (gName 14)) (tt := tYes) (te := (tCall sp__law_item_text [] E0 (tCons (tVar 14) tNil))) rfl sc__law_rows.nd (pi_u rfl (pv 7)) (blkOk_by (own := [("_law_item", 14)]) (N := ["_law_told_here", "_law_start", "_law_choices", "_law_joins", "_law_rows_here", "_law_part", "_law_label", "_law_items", "_law_of", "_law_brackets", "_law_levels", "_law_pair", "_law_way", "_law_words", "_law_item", "_law_word"]) (sc := defScope s__law_rows) (by decide +kernel)) (fun _ _ _ _ _ => (pg_name (i := 14) sc__law_rows.nd rfl (by first | exact Or.inl rfl | exact Or.inr rfl))) (fun _ _ _ _ _ => pts_nil) (fun _ _ _ _ _ => (pe_gd gd__law_item_text hr (by rfl) (pa_cons (pv 14) pa_nil)))))) pa_nil)))))
  (pss_cons (ps_for PassesOwn.never rfl (pi_u rfl (pv 3)) (pg_tup (by rfl) (pgs_cons (pg_name (i := 5) sc__law_rows.nd rfl (by first | exact Or.inl rfl | exact Or.inr rfl)) (pgs_cons (pg_name (i := 8) sc__law_rows.nd rfl (by first | exact Or.inl rfl | exact Or.inr rfl)) (pgs_cons (pg_name (i := 9) sc__law_rows.nd rfl (by first | exact Or.inl rfl | exact Or.inr rfl)) (pgs_cons (pg_name (i := 10) sc__law_rows.nd rfl (by first | exact Or.inl rfl | exact Or.inr rfl)) pgs_nil))))) (pss_cons (ps_set (i := 11) sc__law_rows.nd rfl (Or.inl rfl) (pe_ujoin rfl pe_str (pe_lc (own := [("_law_word", 15)]) (g := (gName 15)) (tt := tYes) (te := (tOp (uAdd K) (tOp (uAdd K) (tC (.str (Str.ofString "'"))) (tVar 15)) (tC (.str (Str.ofString "'"))))) rfl sc__law_rows.nd (pi_u rfl (pv 9)) (blkOk_by (own := [("_law_word", 15)]) (N := ["_law_told_here", "_law_start", "_law_choices", "_law_joins", "_law_rows_here", "_law_part", "_law_label", "_law_items", "_law_of", "_law_brackets", "_law_levels", "_law_pair", "_law_way", "_law_words", "_law_item", "_law_word"]) (sc := defScope s__law_rows) (by decide +kernel)) (fun _ _ _ _ _ => (pg_name (i := 15) sc__law_rows.nd rfl (by first | exact Or.inl rfl | exact Or.inr rfl))) (fun _ _ _ _ _ => pts_nil) (fun _ _ _ _ _ => (pe_op (ou_add rfl) (pe_op (ou_add rfl) pe_str (pv 15)) pe_str)))))
  (pss_cons (ps_expr (pe_bm PySem.F.plainAttrs_list PySem.F.slot_list_append PySem.F.type_list_append mt_append (pv 4) (pa_cons (pe_op (ou_add rfl) (pe_op (ou_add rfl) (pe_op (ou_add rfl) (pe_op (ou_add rfl) (pv 5) pe_str) (pv 8)) pe_str) (pv 11)) pa_nil)))
  (pss_one (ps_for PassesOwn.never rfl (pi_u rfl (pv 10)) (pg_tup (by rfl) (pgs_cons (pg_name (i := 12) sc__law_rows.nd rfl (by first | exact Or.inl rfl | exact Or.inr rfl)) (pgs_cons (pg_name (i := 13) sc__law_rows.nd rfl (by first | exact Or.inl rfl | exact Or.inr rfl)) pgs_nil))) (pss_one (ps_expr (pe_bm PySem.F.plainAttrs_list PySem.F.slot_list_append PySem.F.type_list_append mt_append (pv 4) (pa_cons (pe_ujoin rfl pe_str (pe_op (ou_add rfl) (pe_lst (pa_cons (pv 12) pa_nil)) (pe_lc (own := [("_law_word", 15)]) (g := (gName 15)) (tt := tYes) (te := (tOp (uAdd K) (tOp (uAdd K) (tC (.str (Str.ofString "'"))) (tVar 15)) (tC (.str (Str.ofString "'"))))) rfl sc__law_rows.nd (pi_u rfl (pv 13)) (blkOk_by (own := [("_law_word", 15)]) (N := ["_law_told_here", "_law_start", "_law_choices", "_law_joins", "_law_rows_here", "_law_part", "_law_label", "_law_items", "_law_of", "_law_brackets", "_law_levels", "_law_pair", "_law_way", "_law_words", "_law_item", "_law_word"]) (sc := defScope s__law_rows) (by decide +kernel)) (fun _ _ _ _ _ => (pg_name (i := 15) sc__law_rows.nd rfl (by first | exact Or.inl rfl | exact Or.inr rfl))) (fun _ _ _ _ _ => pts_nil) (fun _ _ _ _ _ => (pe_op (ou_add rfl) (pe_op (ou_add rfl) pe_str (pv 15)) pe_str))))) pa_nil)))))))))
  (pss_one (ps_ret (pv 4)))))))
/-! law: slots 0 _law_script, 1 _law_k, 2 _law_told_here, 3 _law_grammar, 4 _law_due, 5 _law_found, 6 _law_row -/
abbrev s_law : Stmt := topS 61
theorem sc_law : FnScope ["_law_script", "_law_k", "_law_told_here", "_law_grammar", "_law_due", "_law_found", "_law_row"] ["_law_script"] (defScope s_law) := ⟨rfl, rfl, rfl, by decide +kernel, rfl, by decide +kernel, by decide +kernel⟩
def T_law (K : PySem.W.Frag) (sp__law_grammar_by : Sp) (sp__law_made : Sp) (sp__law_rows : Sp) (sp_written : Sp) (sp__law_told : Sp) : TS :=
  (tSeq (tFor (iRng1 (tCons (tCB (uMaxU K) (tCons (tC (.int 1)) (tCons (tCB uMin (tCons (tOp uDiv (tCB (uLen K) (tCons (tVar 0) tNil)) (tC (.int 12))) (tCons (tC (.int 10)) tNil))) tNil))) tNil)) (gName 1) (tSeq (tAsg (tCall sp__law_grammar_by [] E0 (tCons (tVar 0) (tCons (tOp uMul (tC (.int 20)) (tVar 1)) (tCons (tC (.int 8)) tNil)))) (gName 2))
  (tSeq (tAsg (tCall sp__law_made [] E0 (tCons (tVar 2) tNil)) (gName 3))
  (tSeq (tAsg (tM1 (uJoin K) (tC (.str (Str.ofString ""))) (tLc (iU K (tCall sp__law_rows [] E0 (tCons (tVar 2) tNil))) (gName 6) tYes (tOp (uAdd K) (tVar 6) (tC (.str (Str.ofString "\n")))) [6])) (gName 4))
  (tSeq (tAsg (tCall sp_written [] E0 (tCons (tVar 3) tNil)) (gName 5))
  (tSeq (tIfS (tOr (tNot (tTru K (tCB (uIsi K) (tCons (tVar 5) (tCons (tC (.ty "str")) tNil))))) (tOr (tTest (tOp (uNe K) (tVar 5) (tVar 4))) (tTest (tOp (uNe K) (tCall sp__law_told [] E0 (tCons (tVar 3) tNil)) (tVar 2))))) (tRet (tC (.bl false))) tNext)
  (tIfS (tOr (tTest (tOp (uEq K) (tCall sp_written [] E0 (tCons (tCall sp__law_made [] E0 (tCons (tCall sp__law_grammar_by [] E0 (tCons (tVar 0) (tCons (tOp (uAdd K) (tOp uMul (tC (.int 20)) (tVar 1)) (tC (.int 7))) (tCons (tC (.int 3)) tNil)))) tNil)) tNil)) (tC (.str (Str.ofString ""))))) (tTest (tOp (uNe K) (tCall sp_written [] E0 (tCons (tVar 3) tNil)) (tVar 4)))) (tRet (tC (.bl false))) tNext)))))))
  (tRet (tC (.bl true))))
theorem p_law {P : Program} {w : World} {K : PySem.W.Frag} {mg : Str → Option Value} {base : Heap} {f : Addr} {k : Nat} {sp__law_grammar_by : Sp} (gd__law_grammar_by : GD P w K mg base k "_law_grammar_by" ["_law_script", "_law_first", "_law_most"] sp__law_grammar_by) {sp__law_made : Sp} (gd__law_made : GD P w K mg base k "_law_made" ["_law_told_here"] sp__law_made) {sp__law_rows : Sp} (gd__law_rows : GD P w K mg base k "_law_rows" ["_law_told_here"] sp__law_rows) {sp_written : Sp} (gd_written : GD P w K mg base k "written" ["grammar"] sp_written) {sp__law_told : Sp} (gd__law_told : GD P w K mg base k "_law_told" ["_law_grammar"] sp__law_told) (mz_range : mg "range" = none) (mz_max : mg "max" = none) (mz_min : mg "min" = none) (mz_len : mg "len" = none) (mz_isinstance : mg "isinstance" = none) (mz_str : mg "str" = none) (cdv : Value) (A : Around) (outer : List Env) (s : Shared) (H : Hp) (E : XK)
    (hr : Room k (A.deeper (envOfC "law" (defScope s_law) s.heap.objs.size f cdv))) :
    PSs (cxOf CX0 P w K mg base ["_law_script", "_law_k", "_law_told_here", "_law_grammar", "_law_due", "_law_found", "_law_row"] "law" (defScope s_law) f cdv A outer s H E).nox (defBody s_law) (T_law K sp__law_grammar_by sp__law_made sp__law_rows sp_written sp__law_told) :=
  (pss_cons (ps_for PassesOwn.never rfl (pi_range1 (by rfl) mz_range (pa_cons (pe_callB (cu_maxU rfl rfl (room64 hr)) (by rfl) mz_max (by decide +kernel) (pa_cons pe_int (pa_cons (pe_callB (cu_min rfl) (by rfl) mz_min (by decide +kernel) (pa_cons (pe_op ou_div (pe_callB (cu_len rfl) (by rfl) mz_len (by decide +kernel) (pa_cons (pv 0) pa_nil)) pe_int) (pa_cons pe_int pa_nil))) pa_nil))) pa_nil)) (pg_name (i := 1) sc_law.nd rfl (by first | exact Or.inl rfl | exact Or.inr rfl)) (pss_cons (ps_set (i := 2) sc_law.nd rfl (Or.inl rfl) (pe_gd gd__law_grammar_by hr (by rfl) (pa_cons (pv 0) (pa_cons (pe_op ou_mul pe_int (pv 1)) (pa_cons pe_int pa_nil)))))
  (pss_cons (ps_set (i := 3) sc_law.nd rfl (Or.inl rfl) (pe_gd gd__law_made hr (by rfl) (pa_cons (pv 2) pa_nil)))
  (pss_cons (ps_set (i := 4) sc_law.nd rfl (Or.inl rfl) (pe_ujoin rfl pe_str (pe_lc (own := [("_law_row", 6)]) (g := (gName 6)) (tt := tYes) (te := (tOp (uAdd K) (tVar 6) (tC (.str (Str.ofString "\n"))))) rfl sc_law.nd (pi_u rfl (pe_gd gd__law_rows hr (by rfl) (pa_cons (pv 2) pa_nil))) (blkOk_by (own := [("_law_row", 6)]) (N := ["_law_script", "_law_k", "_law_told_here", "_law_grammar", "_law_due", "_law_found", "_law_row"]) (sc := defScope s_law) (by decide +kernel)) (fun _ _ _ _ _ => (pg_name (i := 6) sc_law.nd rfl (by first | exact Or.inl rfl | exact Or.inr rfl))) (fun _ _ _ _ _ => pts_nil) (fun _ _ _ _ _ => (pe_op (ou_add rfl) (pv 6) pe_str)))))
  (pss_cons (ps_set (i := 5) sc_law.nd rfl (Or.inl rfl) (pe_gd gd_written hr (by rfl) (pa_cons (pv 3) pa_nil)))
  (pss_cons (ps_if (PW.pt (pw_or (pt_not (pt_any rfl (pe_callB (cu_isiU rfl) (by rfl) mz_isinstance (by decide +kernel) (pa_cons (pv 5) (pa_cons (pe_bltn (v := .ty "str") (by rfl) mz_str (by decide +kernel) rfl) pa_nil))))) (pw_or (pt_cmpR (ou_ne rfl (room64 hr)) (pv 5) (pv 4) (nomark _)) (pw_or1 (pt_cmpR (ou_ne rfl (room64 hr)) (pe_gd gd__law_told hr (by rfl) (pa_cons (pv 3) pa_nil)) (pv 2) (nomark _)))))) (pss_one (ps_ret pe_bl)) pss_nil)
  (pss_one (ps_if (PW.pt (pw_or (pt_cmpR (ou_eq rfl (room64 hr)) (pe_gd gd_written hr (by rfl) (pa_cons (pe_gd gd__law_made hr (by rfl) (pa_cons (pe_gd gd__law_grammar_by hr (by rfl) (pa_cons (pv 0) (pa_cons (pe_op (ou_add rfl) (pe_op ou_mul pe_int (pv 1)) pe_int) (pa_cons pe_int pa_nil)))) pa_nil)) pa_nil)) pe_str (nomark _)) (pw_or1 (pt_cmpR (ou_ne rfl (room64 hr)) (pe_gd gd_written hr (by rfl) (pa_cons (pv 3) pa_nil)) (pv 4) (nomark _))))) (pss_one (ps_ret pe_bl)) pss_nil))))))))
  (pss_one (ps_ret pe_bl)))
/-! Item_inner: slots 0 self -/
abbrev s_Item_inner : Stmt := inClass (topS 19) 0
theorem sc_Item_inner : FnScope ["self"] ["self"] (defScope s_Item_inner) := ⟨rfl, rfl, rfl, by decide +kernel, rfl, by decide +kernel, by decide +kernel⟩
def T_Item_inner (K : PySem.W.Frag) (W : WX) : TS :=
  (tRet (tTup tNil))
theorem p_Item_inner {P : Program} {w : World} {K : PySem.W.Frag} {mg : Str → Option Value} {base : Heap} {f : Addr} {k : Nat} (cdv : Value) (A : Around) (outer : List Env) (s : Shared) (H : Hp) (E : XK)
    (hr : Room k (A.deeper (envOfC "Item.inner" (defScope s_Item_inner) s.heap.objs.size f cdv))) :
    PSs (cxOf (L2.CX P w) P w K mg base ["self"] "Item.inner" (defScope s_Item_inner) f cdv A outer s H E) (defBody s_Item_inner) (T_Item_inner K (fun cls d _ H => E cls d H)) :=
  (pss_one (ps_ret (pe_tup pa_nil)))
/-! Item_told: slots 0 self -/
abbrev s_Item_told : Stmt := inClass (topS 19) 1
theorem sc_Item_told : FnScope ["self"] ["self"] (defScope s_Item_told) := ⟨rfl, rfl, rfl, by decide +kernel, rfl, by decide +kernel, by decide +kernel⟩
def T_Item_told (K : PySem.W.Frag) (W : WX) : TS :=
  (tRet (tTup tNil))
theorem p_Item_told {P : Program} {w : World} {K : PySem.W.Frag} {mg : Str → Option Value} {base : Heap} {f : Addr} {k : Nat} (cdv : Value) (A : Around) (outer : List Env) (s : Shared) (H : Hp) (E : XK)
    (hr : Room k (A.deeper (envOfC "Item.told" (defScope s_Item_told) s.heap.objs.size f cdv))) :
    PSs (cxOf (L2.CX P w) P w K mg base ["self"] "Item.told" (defScope s_Item_told) f cdv A outer s H E) (defBody s_Item_told) (T_Item_told K (fun cls d _ H => E cls d H)) :=
  (pss_one (ps_ret (pe_tup pa_nil)))
/-! Item_text: slots 0 self -/
abbrev s_Item_text : Stmt := inClass (topS 19) 2
theorem sc_Item_text : FnScope ["self"] ["self"] (defScope s_Item_text) := ⟨rfl, rfl, rfl, by decide +kernel, rfl, by decide +kernel, by decide +kernel⟩
def T_Item_text (K : PySem.W.Frag) (W : WX) : TS :=
  (tRet (tC (.str (Str.ofString ""))))
theorem p_Item_text {P : Program} {w : World} {K : PySem.W.Frag} {mg : Str → Option Value} {base : Heap} {f : Addr} {k : Nat} (cdv : Value) (A : Around) (outer : List Env) (s : Shared) (H : Hp) (E : XK)
    (hr : Room k (A.deeper (envOfC "Item.text" (defScope s_Item_text) s.heap.objs.size f cdv))) :
    PSs (cxOf (L2.CX P w) P w K mg base ["self"] "Item.text" (defScope s_Item_text) f cdv A outer s H E) (defBody s_Item_text) (T_Item_text K (fun cls d _ H => E cls d H)) :=
  (pss_one (ps_ret pe_str))
/-! Item_size: slots 0 self -/
abbrev s_Item_size : Stmt := inClass (topS 19) 3
theorem sc_Item_size : FnScope ["self"] ["self"] (defScope s_Item_size) := ⟨rfl, rfl, rfl, by decide +kernel, rfl, by decide +kernel, by decide +kernel⟩
def T_Item_size (K : PySem.W.Frag) (ms_inner : List (Addr × Sp)) (W : WX) : TS :=
  (tRet (tOp (uAdd K) (tC (.int 1)) (tCB (uLen K) (tCons (tMu ms_inner "inner" (WE W) (tVar 0) tNil) tNil))))
theorem p_Item_size {P : Program} {w : World} {K : PySem.W.Frag} {mg : Str → Option Value} {base : Heap} {f : Addr} {k : Nat} {ms_inner : List (Addr × Sp)} (md_inner : MDs P w K mg base k "inner" ms_inner) (mz_len : mg "len" = none) (cdv : Value) (A : Around) (outer : List Env) (s : Shared) (H : Hp) (E : XK)
    (hr : Room k (A.deeper (envOfC "Item.size" (defScope s_Item_size) s.heap.objs.size f cdv))) :
    PSs (cxOf (L2.CX P w) P w K mg base ["self"] "Item.size" (defScope s_Item_size) f cdv A outer s H E) (defBody s_Item_size) (T_Item_size K ms_inner (fun cls d _ H => E cls d H)) :=
  (pss_one (ps_ret (pe_op (ou_add rfl) pe_int (pe_callB (cu_len rfl) (by rfl) mz_len (by decide +kernel) (pa_cons (pe_mu0 md_inner (fun σ => passAt (takes_of rfl rfl rfl rfl) σ) hr (pv 0)) pa_nil)))))
/-! Item_fixed: slots 0 self, 1 found, 2 item -/
abbrev s_Item_fixed : Stmt := inClass (topS 19) 4
theorem sc_Item_fixed : FnScope ["self", "found", "item"] ["self"] (defScope s_Item_fixed) := ⟨rfl, rfl, rfl, by decide +kernel, rfl, by decide +kernel, by decide +kernel⟩
def T_Item_fixed (K : PySem.W.Frag) (ms_inner : List (Addr × Sp)) (ms_fixed : List (Addr × Sp)) (W : WX) : TS :=
  (tSeq (tAsg (tLst tNil) (gName 1))
  (tSeq (tFor (iU K (tMu ms_inner "inner" (WE W) (tVar 0) tNil)) (gName 2) (tAug 1 (tMu ms_fixed "fixed" (WE W) (tVar 2) tNil) (uIpAdd)))
  (tRet (tVar 1))))
theorem p_Item_fixed {P : Program} {w : World} {K : PySem.W.Frag} {mg : Str → Option Value} {base : Heap} {f : Addr} {k : Nat} {ms_inner : List (Addr × Sp)} (md_inner : MDs P w K mg base k "inner" ms_inner) {ms_fixed : List (Addr × Sp)} (md_fixed : MDs P w K mg base k "fixed" ms_fixed) (cdv : Value) (A : Around) (outer : List Env) (s : Shared) (H : Hp) (E : XK)
    (hr : Room k (A.deeper (envOfC "Item.fixed" (defScope s_Item_fixed) s.heap.objs.size f cdv))) :
    PSs (cxOf (L2.CX P w) P w K mg base ["self", "found", "item"] "Item.fixed" (defScope s_Item_fixed) f cdv A outer s H E) (defBody s_Item_fixed) (T_Item_fixed K ms_inner ms_fixed (fun cls d _ H => E cls d H)) :=
  (pss_cons (ps_set (i := 1) sc_Item_fixed.nd rfl (Or.inl rfl) (pe_lst pa_nil))
  (pss_cons (ps_for (passes_of rfl) rfl (pi_u rfl (pe_mu0 md_inner (fun σ => passAt (takes_of rfl rfl rfl rfl) σ) hr (pv 0))) (pg_name (i := 2) sc_Item_fixed.nd rfl (by first | exact Or.inl rfl | exact Or.inr rfl)) (pss_one (ps_aug (i := 1) sc_Item_fixed.nd rfl (Or.inl rfl) (pe_mu0 md_fixed (fun σ => passAt (takes_of rfl rfl rfl rfl) σ) hr (pv 2)) ipu_add)))
  (pss_one (ps_ret (pv 1)))))
/-! Part___init__: slots 0 self, 1 name -/
abbrev s_Part___init__ : Stmt := inClass (topS 20) 0
theorem sc_Part___init__ : FnScope ["self", "name"] ["self", "name"] (defScope s_Part___init__) := ⟨rfl, rfl, rfl, by decide +kernel, rfl, by decide +kernel, by decide +kernel⟩
def T_Part___init__ (K : PySem.W.Frag) (sp_need_name : Sp) (W : WX) : TS :=
  (tSeq (tDrop (tCallSD sp_need_name [] (WE W) (tCons (tVar 1) tNil)))
  (sFld K (tVar 0) (tVar 1) "name"))
theorem p_Part___init__ {P : Program} {w : World} {K : PySem.W.Frag} {mg : Str → Option Value} {base : Heap} {f : Addr} {k : Nat} {sp_need_name : Sp} (gd_need_name : GX P w K mg base k "need_name" ["text"] sp_need_name) (cdv : Value) (A : Around) (outer : List Env) (s : Shared) (H : Hp) (E : XK)
    (hr : Room k (A.deeper (envOfC "Part.__init__" (defScope s_Part___init__) s.heap.objs.size f cdv))) :
    PSs (cxOf (L2.CX P w) P w K mg base ["self", "name"] "Part.__init__" (defScope s_Part___init__) f cdv A outer s H E) (defBody s_Part___init__) (T_Part___init__ K sp_need_name (fun cls d _ H => E cls d H)) :=
  (pss_cons (ps_expr (pe_gx gd_need_name (takes_of rfl rfl rfl rfl) hr (by rfl) (pa_cons (pv 1) pa_nil)))
  (pss_one (ps_fldU rfl (pv 0) (pv 1) (by rfl))))
/-! Part_told: slots 0 self -/
abbrev s_Part_told : Stmt := inClass (topS 20) 1
theorem sc_Part_told : FnScope ["self"] ["self"] (defScope s_Part_told) := ⟨rfl, rfl, rfl, by decide +kernel, rfl, by decide +kernel, by decide +kernel⟩
def T_Part_told (K : PySem.W.Frag) (W : WX) : TS :=
  (tRet (tTup (tCons (tC (.str (Str.ofString "part"))) (tCons (tAt K "name" (tVar 0)) tNil))))
theorem p_Part_told {P : Program} {w : World} {K : PySem.W.Frag} {mg : Str → Option Value} {base : Heap} {f : Addr} {k : Nat} (cdv : Value) (A : Around) (outer : List Env) (s : Shared) (H : Hp) (E : XK)
    (hr : Room k (A.deeper (envOfC "Part.told" (defScope s_Part_told) s.heap.objs.size f cdv))) :
    PSs (cxOf (L2.CX P w) P w K mg base ["self"] "Part.told" (defScope s_Part_told) f cdv A outer s H E) (defBody s_Part_told) (T_Part_told K (fun cls d _ H => E cls d H)) :=
  (pss_one (ps_ret (pe_tup (pa_cons pe_str (pa_cons (pe_at rfl (pv 0)) pa_nil)))))
/-! Part_text: slots 0 self -/
abbrev s_Part_text : Stmt := inClass (topS 20) 2
theorem sc_Part_text : FnScope ["self"] ["self"] (defScope s_Part_text) := ⟨rfl, rfl, rfl, by decide +kernel, rfl, by decide +kernel, by decide +kernel⟩
def T_Part_text (K : PySem.W.Frag) (W : WX) : TS :=
  (tRet (tAt K "name" (tVar 0)))
theorem p_Part_text {P : Program} {w : World} {K : PySem.W.Frag} {mg : Str → Option Value} {base : Heap} {f : Addr} {k : Nat} (cdv : Value) (A : Around) (outer : List Env) (s : Shared) (H : Hp) (E : XK)
    (hr : Room k (A.deeper (envOfC "Part.text" (defScope s_Part_text) s.heap.objs.size f cdv))) :
    PSs (cxOf (L2.CX P w) P w K mg base ["self"] "Part.text" (defScope s_Part_text) f cdv A outer s H E) (defBody s_Part_text) (T_Part_text K (fun cls d _ H => E cls d H)) :=
  (pss_one (ps_ret (pe_at rfl (pv 0))))
/-! Word___init__: slots 0 self, 1 kind -/
abbrev s_Word___init__ : Stmt := inClass (topS 21) 0
theorem sc_Word___init__ : FnScope ["self", "kind"] ["self", "kind"] (defScope s_Word___init__) := ⟨rfl, rfl, rfl, by decide +kernel, rfl, by decide +kernel, by decide +kernel⟩
def T_Word___init__ (K : PySem.W.Frag) (sp_is_kind : Sp) (x_NoGrammar : Addr) (W : WX) : TS :=
  (tSeq (tIfS (tNot (tTru K (tCall sp_is_kind [] E0 (tCons (tVar 1) tNil)))) (tRaisE (tMk0 x_NoGrammar) W) tNext)
  (sFld K (tVar 0) (tVar 1) "kind"))
theorem p_Word___init__ {P : Program} {w : World} {K : PySem.W.Frag} {mg : Str → Option Value} {base : Heap} {f : Addr} {k : Nat} {sp_is_kind : Sp} (gd_is_kind : GD P w K mg base k "is_kind" ["thing"] sp_is_kind) {x_NoGrammar : Addr} (x0_NoGrammar : X0 K mg "NoGrammar" x_NoGrammar) (cdv : Value) (A : Around) (outer : List Env) (s : Shared) (H : Hp) (E : XK)
    (hr : Room k (A.deeper (envOfC "Word.__init__" (defScope s_Word___init__) s.heap.objs.size f cdv))) :
    PSs (cxOf (L2.CX P w) P w K mg base ["self", "kind"] "Word.__init__" (defScope s_Word___init__) f cdv A outer s H E) (defBody s_Word___init__) (T_Word___init__ K sp_is_kind x_NoGrammar (fun cls d _ H => E cls d H)) :=
  (pss_cons (ps_if (pt_not (pt_any rfl (pe_gd gd_is_kind hr (by rfl) (pa_cons (pv 1) pa_nil)))) (pss_one (ps_raise rfl (takes_of rfl rfl rfl rfl) (pmk_x0 x0_NoGrammar (by rfl)))) pss_nil)
  (pss_one (ps_fldU rfl (pv 0) (pv 1) (by rfl))))
/-! Word_told: slots 0 self -/
abbrev s_Word_told : Stmt := inClass (topS 21) 1
theorem sc_Word_told : FnScope ["self"] ["self"] (defScope s_Word_told) := ⟨rfl, rfl, rfl, by decide +kernel, rfl, by decide +kernel, by decide +kernel⟩
def T_Word_told (K : PySem.W.Frag) (W : WX) : TS :=
  (tRet (tTup (tCons (tC (.str (Str.ofString "word"))) (tCons (tAt K "kind" (tVar 0)) tNil))))
theorem p_Word_told {P : Program} {w : World} {K : PySem.W.Frag} {mg : Str → Option Value} {base : Heap} {f : Addr} {k : Nat} (cdv : Value) (A : Around) (outer : List Env) (s : Shared) (H : Hp) (E : XK)
    (hr : Room k (A.deeper (envOfC "Word.told" (defScope s_Word_told) s.heap.objs.size f cdv))) :
    PSs (cxOf (L2.CX P w) P w K mg base ["self"] "Word.told" (defScope s_Word_told) f cdv A outer s H E) (defBody s_Word_told) (T_Word_told K (fun cls d _ H => E cls d H)) :=
  (pss_one (ps_ret (pe_tup (pa_cons pe_str (pa_cons (pe_at rfl (pv 0)) pa_nil)))))
/-! Word_text: slots 0 self -/
abbrev s_Word_text : Stmt := inClass (topS 21) 2
theorem sc_Word_text : FnScope ["self"] ["self"] (defScope s_Word_text) := ⟨rfl, rfl, rfl, by decide +kernel, rfl, by decide +kernel, by decide +kernel⟩
def T_Word_text (K : PySem.W.Frag) (sp_quoted : Sp) (sp_fixed_of : Sp) (g_OPEN : V) (W : WX) : TS :=
  (tRet (tIf (tTest (tOp (uIn K) (tAt K "kind" (tVar 0)) (tC g_OPEN))) (tAt K "kind" (tVar 0)) (tCall sp_quoted [] E0 (tCons (tCall sp_fixed_of [] E0 (tCons (tAt K "kind" (tVar 0)) tNil)) tNil))))
theorem p_Word_text {P : Program} {w : World} {K : PySem.W.Frag} {mg : Str → Option Value} {base : Heap} {f : Addr} {k : Nat} {sp_quoted : Sp} (gd_quoted : GD P w K mg base k "quoted" ["word"] sp_quoted) {sp_fixed_of : Sp} (gd_fixed_of : GD P w K mg base k "fixed_of" ["kind"] sp_fixed_of) {g_OPEN : V} {u_OPEN : Value} (mg_OPEN : mg "OPEN" = some u_OPEN) (rv_OPEN : RelV g_OPEN u_OPEN) (cdv : Value) (A : Around) (outer : List Env) (s : Shared) (H : Hp) (E : XK)
    (hr : Room k (A.deeper (envOfC "Word.text" (defScope s_Word_text) s.heap.objs.size f cdv))) :
    PSs (cxOf (L2.CX P w) P w K mg base ["self"] "Word.text" (defScope s_Word_text) f cdv A outer s H E) (defBody s_Word_text) (T_Word_text K sp_quoted sp_fixed_of g_OPEN (fun cls d _ H => E cls d H)) :=
  (pss_one (ps_ret (pe_ifExp (pt_cmpR (ou_in rfl (room65 hr)) (pe_at rfl (pv 0)) (pe_glob (by rfl) mg_OPEN rv_OPEN) (by rfl)) (pe_at rfl (pv 0)) (pe_gd gd_quoted hr (by rfl) (pa_cons (pe_gd gd_fixed_of hr (by rfl) (pa_cons (pe_at rfl (pv 0)) pa_nil)) pa_nil)))))
/-! Word_fixed: slots 0 self -/
abbrev s_Word_fixed : Stmt := inClass (topS 21) 3
theorem sc_Word_fixed : FnScope ["self"] ["self"] (defScope s_Word_fixed) := ⟨rfl, rfl, rfl, by decide +kernel, rfl, by decide +kernel, by decide +kernel⟩
def T_Word_fixed (K : PySem.W.Frag) (sp_fixed_of : Sp) (g_OPEN : V) (W : WX) : TS :=
  (tRet (tIf (tTest (tOp (uIn K) (tAt K "kind" (tVar 0)) (tC g_OPEN))) (tLst tNil) (tLst (tCons (tCall sp_fixed_of [] E0 (tCons (tAt K "kind" (tVar 0)) tNil)) tNil))))
theorem p_Word_fixed {P : Program} {w : World} {K : PySem.W.Frag} {mg : Str → Option Value} {base : Heap} {f : Addr} {k : Nat} {sp_fixed_of : Sp} (gd_fixed_of : GD P w K mg base k "fixed_of" ["kind"] sp_fixed_of) {g_OPEN : V} {u_OPEN : Value} (mg_OPEN : mg "OPEN" = some u_OPEN) (rv_OPEN : RelV g_OPEN u_OPEN) (cdv : Value) (A : Around) (outer : List Env) (s : Shared) (H : Hp) (E : XK)
    (hr : Room k (A.deeper (envOfC "Word.fixed" (defScope s_Word_fixed) s.heap.objs.size f cdv))) :
    PSs (cxOf (L2.CX P w) P w K mg base ["self"] "Word.fixed" (defScope s_Word_fixed) f cdv A outer s H E) (defBody s_Word_fixed) (T_Word_fixed K sp_fixed_of g_OPEN (fun cls d _ H => E cls d H)) :=
  (pss_one (ps_ret (pe_ifExp (pt_cmpR (ou_in rfl (room65 hr)) (pe_at rfl (pv 0)) (pe_glob (by rfl) mg_OPEN rv_OPEN) (by rfl)) (pe_lst pa_nil) (pe_lst (pa_cons (pe_gd gd_fixed_of hr (by rfl) (pa_cons (pe_at rfl (pv 0)) pa_nil)) pa_nil)))))
/-! Maybe___init__: slots 0 self, 1 things -/
abbrev s_Maybe___init__ : Stmt := inClass (topS 24) 0
theorem sc_Maybe___init__ : FnScope ["self", "things"] ["self", "things"] (defScope s_Maybe___init__) := ⟨rfl, rfl, rfl, by decide +kernel, rfl, by decide +kernel, by decide +kernel⟩
def T_Maybe___init__ (K : PySem.W.Frag) (sp_need_inner : Sp) (W : WX) : TS :=
  (tSeq (tDrop (tCallSD sp_need_inner [] (WE W) (tCons (tVar 1) tNil)))
  (sFld K (tVar 0) (tCB (uTuple K) (tCons (tVar 1) tNil)) "things"))
theorem p_Maybe___init__ {P : Program} {w : World} {K : PySem.W.Frag} {mg : Str → Option Value} {base : Heap} {f : Addr} {k : Nat} {sp_need_inner : Sp} (gd_need_inner : GX P w K mg base k "need_inner" ["items"] sp_need_inner) (mz_tuple : mg "tuple" = none) (cdv : Value) (A : Around) (outer : List Env) (s : Shared) (H : Hp) (E : XK)
    (hr : Room k (A.deeper (envOfC "Maybe.__init__" (defScope s_Maybe___init__) s.heap.objs.size f cdv))) :
    PSs (cxOf (L2.CX P w) P w K mg base ["self", "things"] "Maybe.__init__" (defScope s_Maybe___init__) f cdv A outer s H E) (defBody s_Maybe___init__) (T_Maybe___init__ K sp_need_inner (fun cls d _ H => E cls d H)) :=
  (pss_cons (ps_expr (pe_gx gd_need_inner (takes_of rfl rfl rfl rfl) hr (by rfl) (pa_cons (pv 1) pa_nil)))
  (pss_one (ps_fldU rfl (pv 0) (pe_callTy (cu_tuple rfl) (by rfl) mz_tuple (by decide +kernel) (pa_cons (pv 1) pa_nil)) (by rfl))))
/-! Maybe_inner: slots 0 self -/
abbrev s_Maybe_inner : Stmt := inClass (topS 24) 1
theorem sc_Maybe_inner : FnScope ["self"] ["self"] (defScope s_Maybe_inner) := ⟨rfl, rfl, rfl, by decide +kernel, rfl, by decide +kernel, by decide +kernel⟩
def T_Maybe_inner (K : PySem.W.Frag) (W : WX) : TS :=
  (tRet (tAt K "things" (tVar 0)))
theorem p_Maybe_inner {P : Program} {w : World} {K : PySem.W.Frag} {mg : Str → Option Value} {base : Heap} {f : Addr} {k : Nat} (cdv : Value) (A : Around) (outer : List Env) (s : Shared) (H : Hp) (E : XK)
    (hr : Room k (A.deeper (envOfC "Maybe.inner" (defScope s_Maybe_inner) s.heap.objs.size f cdv))) :
    PSs (cxOf (L2.CX P w) P w K mg base ["self"] "Maybe.inner" (defScope s_Maybe_inner) f cdv A outer s H E) (defBody s_Maybe_inner) (T_Maybe_inner K (fun cls d _ H => E cls d H)) :=
  (pss_one (ps_ret (pe_at rfl (pv 0))))
/-! Maybe_told: slots 0 self, 1 item -/
abbrev s_Maybe_told : Stmt := inClass (topS 24) 2
theorem sc_Maybe_told : FnScope ["self", "item"] ["self"] (defScope s_Maybe_told) := ⟨rfl, rfl, rfl, by decide +kernel, rfl, by decide +kernel, by decide +kernel⟩
def T_Maybe_told (K : PySem.W.Frag) (ms_told : List (Addr × Sp)) (W : WX) : TS :=
  (tRet (tTup (tCons (tC (.str (Str.ofString "maybe"))) (tCons (tCB (uTuple K) (tCons (tLc (iU K (tAt K "things" (tVar 0))) (gName 1) tYes (tMu ms_told "told" (fun _ => E0) (tVar 1) tNil) [1]) tNil)) tNil))))
theorem p_Maybe_told {P : Program} {w : World} {K : PySem.W.Frag} {mg : Str → Option Value} {base : Heap} {f : Addr} {k : Nat} {ms_told : List (Addr × Sp)} (md_told : MDs P w K mg base k "told" ms_told) (mz_tuple : mg "tuple" = none) (cdv : Value) (A : Around) (outer : List Env) (s : Shared) (H : Hp) (E : XK)
    (hr : Room k (A.deeper (envOfC "Maybe.told" (defScope s_Maybe_told) s.heap.objs.size f cdv))) :
    PSs (cxOf (L2.CX P w) P w K mg base ["self", "item"] "Maybe.told" (defScope s_Maybe_told) f cdv A outer s H E) (defBody s_Maybe_told) (T_Maybe_told K ms_told (fun cls d _ H => E cls d H)) :=
  (pss_one (ps_ret (pe_tup (pa_cons pe_str (pa_cons (pe_callTy (cu_tuple rfl) (by rfl) mz_tuple (by decide +kernel) (pa_cons (pe_lc (own := [("item", 1)]) (g := (gName 1)) (tt := tYes) (te := (tMu ms_told "told" (fun _ => E0) (tVar 1) tNil)) rfl sc_Maybe_told.nd (pi_u rfl (pe_at rfl (pv 0))) (blkOk_by (own := [("item", 1)]) (N := ["self", "item"]) (sc := defScope s_Maybe_told) (by decide +kernel)) (fun _ _ _ _ _ => (pg_name (i := 1) sc_Maybe_told.nd rfl (by first | exact Or.inl rfl | exact Or.inr rfl))) (fun _ _ _ _ _ => pts_nil) (fun _ _ _ _ _ => (pe_mu0 md_told (fun σ => passL0 σ) hr (pv 1)))) pa_nil)) pa_nil)))))
/-! Maybe_text: slots 0 self -/
abbrev s_Maybe_text : Stmt := inClass (topS 24) 3
theorem sc_Maybe_text : FnScope ["self"] ["self"] (defScope s_Maybe_text) := ⟨rfl, rfl, rfl, by decide +kernel, rfl, by decide +kernel, by decide +kernel⟩
def T_Maybe_text (K : PySem.W.Frag) (sp_all_texts : Sp) (W : WX) : TS :=
  (tRet (tOp (uAdd K) (tOp (uAdd K) (tC (.str (Str.ofString "\x5b "))) (tCall sp_all_texts [] E0 (tCons (tAt K "things" (tVar 0)) tNil))) (tC (.str (Str.ofString " ]")))))
theorem p_Maybe_text {P : Program} {w : World} {K : PySem.W.Frag} {mg : Str → Option Value} {base : Heap} {f : Addr} {k : Nat} {sp_all_texts : Sp} (gd_all_texts : GD P w K mg base k "all_texts" ["items"] sp_all_texts) (cdv : Value) (A : Around) (outer : List Env) (s : Shared) (H : Hp) (E : XK)
    (hr : Room k (A.deeper (envOfC "Maybe.text" (defScope s_Maybe_text) s.heap.objs.size f cdv))) :
    PSs (cxOf (L2.CX P w) P w K mg base ["self"] "Maybe.text" (defScope s_Maybe_text) f cdv A outer s H E) (defBody s_Maybe_text) (T_Maybe_text K sp_all_texts (fun cls d _ H => E cls d H)) :=
  (pss_one (ps_ret (pe_op (ou_add rfl) (pe_op (ou_add rfl) pe_str (pe_gd gd_all_texts hr (by rfl) (pa_cons (pe_at rfl (pv 0)) pa_nil))) pe_str)))
/-! Again___init__: slots 0 self, 1 things, 2 between -/
abbrev s_Again___init__ : Stmt := inClass (topS 25) 0
theorem sc_Again___init__ : FnScope ["self", "things", "between"] ["self", "things", "between"] (defScope s_Again___init__) := ⟨rfl, rfl, rfl, by decide +kernel, rfl, by decide +kernel, by decide +kernel⟩
def T_Again___init__ (K : PySem.W.Frag) (sp_need_inner : Sp) (sp_is_kind : Sp) (sp_is_fixed : Sp) (x_NoGrammar : Addr) (W : WX) : TS :=
  (tSeq (tDrop (tCallSD sp_need_inner [] (WE W) (tCons (tVar 1) tNil)))
  (tSeq (tIfS (tAnd (tTest (tOp uIsNot (tVar 2) (tC .non))) (tOr (tNot (tTru K (tCall sp_is_kind [] E0 (tCons (tVar 2) tNil)))) (tNot (tTru K (tCall sp_is_fixed [] E0 (tCons (tSl (uSl K) (tVar 2) (tPart (tC (.int 1))) tNoPart) tNil)))))) (tRaisE (tMk0 x_NoGrammar) W) tNext)
  (tSeq (sFld K (tVar 0) (tCB (uTuple K) (tCons (tVar 1) tNil)) "things")
  (sFld K (tVar 0) (tVar 2) "between"))))
theorem p_Again___init__ {P : Program} {w : World} {K : PySem.W.Frag} {mg : Str → Option Value} {base : Heap} {f : Addr} {k : Nat} {sp_need_inner : Sp} (gd_need_inner : GX P w K mg base k "need_inner" ["items"] sp_need_inner) {sp_is_kind : Sp} (gd_is_kind : GD P w K mg base k "is_kind" ["thing"] sp_is_kind) {sp_is_fixed : Sp} (gd_is_fixed : GD P w K mg base k "is_fixed" ["thing"] sp_is_fixed) {x_NoGrammar : Addr} (x0_NoGrammar : X0 K mg "NoGrammar" x_NoGrammar) (mz_tuple : mg "tuple" = none) (cdv : Value) (A : Around) (outer : List Env) (s : Shared) (H : Hp) (E : XK)
    (hr : Room k (A.deeper (envOfC "Again.__init__" (defScope s_Again___init__) s.heap.objs.size f cdv))) :
    PSs (cxOf (L2.CX P w) P w K mg base ["self", "things", "between"] "Again.__init__" (defScope s_Again___init__) f cdv A outer s H E) (defBody s_Again___init__) (T_Again___init__ K sp_need_inner sp_is_kind sp_is_fixed x_NoGrammar (fun cls d _ H => E cls d H)) :=
  (pss_cons (ps_expr (pe_gx gd_need_inner (takes_of rfl rfl rfl rfl) hr (by rfl) (pa_cons (pv 1) pa_nil)))
  (pss_cons (ps_if (PW.pt (pw_and (pt_cmpR ou_isnot (pv 2) pe_non (nomark _)) (pw_and1 (PW.pt (pw_or (pt_not (pt_any rfl (pe_gd gd_is_kind hr (by rfl) (pa_cons (pv 2) pa_nil)))) (pw_or1 (pt_not (pt_any rfl (pe_gd gd_is_fixed hr (by rfl) (pa_cons (pe_slice (ou_sl rfl) (pv 2) (po_some pe_int) po_none) pa_nil)))))))))) (pss_one (ps_raise rfl (takes_of rfl rfl rfl rfl) (pmk_x0 x0_NoGrammar (by rfl)))) pss_nil)
  (pss_cons (ps_fldU rfl (pv 0) (pe_callTy (cu_tuple rfl) (by rfl) mz_tuple (by decide +kernel) (pa_cons (pv 1) pa_nil)) (by rfl))
  (pss_one (ps_fldU rfl (pv 0) (pv 2) (by rfl))))))
/-! Again_inner: slots 0 self -/
abbrev s_Again_inner : Stmt := inClass (topS 25) 1
theorem sc_Again_inner : FnScope ["self"] ["self"] (defScope s_Again_inner) := ⟨rfl, rfl, rfl, by decide +kernel, rfl, by decide +kernel, by decide +kernel⟩
def T_Again_inner (K : PySem.W.Frag) (W : WX) : TS :=
  (tRet (tAt K "things" (tVar 0)))
theorem p_Again_inner {P : Program} {w : World} {K : PySem.W.Frag} {mg : Str → Option Value} {base : Heap} {f : Addr} {k : Nat} (cdv : Value) (A : Around) (outer : List Env) (s : Shared) (H : Hp) (E : XK)
    (hr : Room k (A.deeper (envOfC "Again.inner" (defScope s_Again_inner) s.heap.objs.size f cdv))) :
    PSs (cxOf (L2.CX P w) P w K mg base ["self"] "Again.inner" (defScope s_Again_inner) f cdv A outer s H E) (defBody s_Again_inner) (T_Again_inner K (fun cls d _ H => E cls d H)) :=
  (pss_one (ps_ret (pe_at rfl (pv 0))))
/-! Again_told: slots 0 self, 1 item -/
abbrev s_Again_told : Stmt := inClass (topS 25) 2
theorem sc_Again_told : FnScope ["self", "item"] ["self"] (defScope s_Again_told) := ⟨rfl, rfl, rfl, by decide +kernel, rfl, by decide +kernel, by decide +kernel⟩
def T_Again_told (K : PySem.W.Frag) (ms_told : List (Addr × Sp)) (W : WX) : TS :=
  (tRet (tTup (tCons (tC (.str (Str.ofString "again"))) (tCons (tCB (uTuple K) (tCons (tLc (iU K (tAt K "things" (tVar 0))) (gName 1) tYes (tMu ms_told "told" (fun _ => E0) (tVar 1) tNil) [1]) tNil)) (tCons (tAt K "between" (tVar 0)) tNil)))))
theorem p_Again_told {P : Program} {w : World} {K : PySem.W.Frag} {mg : Str → Option Value} {base : Heap} {f : Addr} {k : Nat} {ms_told : List (Addr × Sp)} (md_told : MDs P w K mg base k "told" ms_told) (mz_tuple : mg "tuple" = none) (cdv : Value) (A : Around) (outer : List Env) (s : Shared) (H : Hp) (E : XK)
    (hr : Room k (A.deeper (envOfC "Again.told" (defScope s_Again_told) s.heap.objs.size f cdv))) :
    PSs (cxOf (L2.CX P w) P w K mg base ["self", "item"] "Again.told" (defScope s_Again_told) f cdv A outer s H E) (defBody s_Again_told) (T_Again_told K ms_told (fun cls d _ H => E cls d H)) :=
  (pss_one (ps_ret (pe_tup (pa_cons pe_str (pa_cons (pe_callTy (cu_tuple rfl) (by rfl) mz_tuple (by decide +kernel) (pa_cons (pe_lc (own := [("item", 1)]) (g := (gName 1)) (tt := tYes) (te := (tMu ms_told "told" (fun _ => E0) (tVar 1) tNil)) rfl sc_Again_told.nd (pi_u rfl (pe_at rfl (pv 0))) (blkOk_by (own := [("item", 1)]) (N := ["self", "item"]) (sc := defScope s_Again_told) (by decide +kernel)) (fun _ _ _ _ _ => (pg_name (i := 1) sc_Again_told.nd rfl (by first | exact Or.inl rfl | exact Or.inr rfl))) (fun _ _ _ _ _ => pts_nil) (fun _ _ _ _ _ => (pe_mu0 md_told (fun σ => passL0 σ) hr (pv 1)))) pa_nil)) (pa_cons (pe_at rfl (pv 0)) pa_nil))))))
/-! Again_text: slots 0 self, 1 end -/
abbrev s_Again_text : Stmt := inClass (topS 25) 3
theorem sc_Again_text : FnScope ["self", "end"] ["self"] (defScope s_Again_text) := ⟨rfl, rfl, rfl, by decide +kernel, rfl, by decide +kernel, by decide +kernel⟩
def T_Again_text (K : PySem.W.Frag) (sp_quoted : Sp) (sp_fixed_of : Sp) (sp_all_texts : Sp) (W : WX) : TS :=
  (tSeq (tAsg (tIf (tTest (tOp uIs (tAt K "between" (tVar 0)) (tC .non))) (tC (.str (Str.ofString " }"))) (tOp (uAdd K) (tOp (uAdd K) (tC (.str (Str.ofString " / "))) (tCall sp_quoted [] E0 (tCons (tCall sp_fixed_of [] E0 (tCons (tAt K "between" (tVar 0)) tNil)) tNil))) (tC (.str (Str.ofString " }"))))) (gName 1))
  (tRet (tOp (uAdd K) (tOp (uAdd K) (tC (.str (Str.ofString "{ "))) (tCall sp_all_texts [] E0 (tCons (tAt K "things" (tVar 0)) tNil))) (tVar 1))))
theorem p_Again_text {P : Program} {w : World} {K : PySem.W.Frag} {mg : Str → Option Value} {base : Heap} {f : Addr} {k : Nat} {sp_quoted : Sp} (gd_quoted : GD P w K mg base k "quoted" ["word"] sp_quoted) {sp_fixed_of : Sp} (gd_fixed_of : GD P w K mg base k "fixed_of" ["kind"] sp_fixed_of) {sp_all_texts : Sp} (gd_all_texts : GD P w K mg base k "all_texts" ["items"] sp_all_texts) (cdv : Value) (A : Around) (outer : List Env) (s : Shared) (H : Hp) (E : XK)
    (hr : Room k (A.deeper (envOfC "Again.text" (defScope s_Again_text) s.heap.objs.size f cdv))) :
    PSs (cxOf (L2.CX P w) P w K mg base ["self", "end"] "Again.text" (defScope s_Again_text) f cdv A outer s H E) (defBody s_Again_text) (T_Again_text K sp_quoted sp_fixed_of sp_all_texts (fun cls d _ H => E cls d H)) :=
  (pss_cons (ps_set (i := 1) sc_Again_text.nd rfl (Or.inl rfl) (pe_ifExp (pt_cmpR ou_is (pe_at rfl (pv 0)) pe_non (nomark _)) pe_str (pe_op (ou_add rfl) (pe_op (ou_add rfl) pe_str (pe_gd gd_quoted hr (by rfl) (pa_cons (pe_gd gd_fixed_of hr (by rfl) (pa_cons (pe_at rfl (pv 0)) pa_nil)) pa_nil))) pe_str)))
  (pss_one (ps_ret (pe_op (ou_add rfl) (pe_op (ou_add rfl) pe_str (pe_gd gd_all_texts hr (by rfl) (pa_cons (pe_at rfl (pv 0)) pa_nil))) (pv 1)))))
/-! Again_fixed: slots 0 self, 1 found -/
abbrev s_Again_fixed : Stmt := inClass (topS 25) 4
theorem sc_Again_fixed : FnScope ["self", "found"] ["self"] (defScope s_Again_fixed) := ⟨rfl, rfl, rfl, by decide +kernel, rfl, by decide +kernel, by decide +kernel⟩
def T_Again_fixed (K : PySem.W.Frag) (sp_fixed_of : Sp) (x_Item : Addr) (ms_fixed : List (Addr × Sp)) (W : WX) : TS :=
  (tSeq (tAsg (tMu ms_fixed "fixed" (WE W) (tC (.ref x_Item)) (tCons (tVar 0) tNil)) (gName 1))
  (tSeq (tIfS (tTest (tOp uIsNot (tAt K "between" (tVar 0)) (tC .non))) (tDrop (tBM K "list" rAppend (tVar 1) (tCons (tCall sp_fixed_of [] E0 (tCons (tAt K "between" (tVar 0)) tNil)) tNil))) tNext)
  (tRet (tVar 1))))
theorem p_Again_fixed {P : Program} {w : World} {K : PySem.W.Frag} {mg : Str → Option Value} {base : Heap} {f : Addr} {k : Nat} {sp_fixed_of : Sp} (gd_fixed_of : GD P w K mg base k "fixed_of" ["kind"] sp_fixed_of) {x_Item : Addr} (mg_Item : mg "Item" = some (.ref x_Item)) {ms_fixed : List (Addr × Sp)} (md_fixed : MDs P w K mg base k "fixed" ms_fixed) (cdv : Value) (A : Around) (outer : List Env) (s : Shared) (H : Hp) (E : XK)
    (hr : Room k (A.deeper (envOfC "Again.fixed" (defScope s_Again_fixed) s.heap.objs.size f cdv))) :
    PSs (cxOf (L2.CX P w) P w K mg base ["self", "found"] "Again.fixed" (defScope s_Again_fixed) f cdv A outer s H E) (defBody s_Again_fixed) (T_Again_fixed K sp_fixed_of x_Item ms_fixed (fun cls d _ H => E cls d H)) :=
  (pss_cons (ps_set (i := 1) sc_Again_fixed.nd rfl (Or.inl rfl) (pe_mu md_fixed (fun σ => passAt (takes_of rfl rfl rfl rfl) σ) hr (pe_glob (by rfl) mg_Item rfl) (pa_cons (pv 0) pa_nil)))
  (pss_cons (ps_if (pt_cmpR ou_isnot (pe_at rfl (pv 0)) pe_non (nomark _)) (pss_one (ps_expr (pe_bm PySem.F.plainAttrs_list PySem.F.slot_list_append PySem.F.type_list_append mt_append (pv 1) (pa_cons (pe_gd gd_fixed_of hr (by rfl) (pa_cons (pe_at rfl (pv 0)) pa_nil)) pa_nil)))) pss_nil)
  (pss_one (ps_ret (pv 1)))))
/-! Choice___init__: slots 0 self, 1 part, 2 label, 3 things, 4 item -/
abbrev s_Choice___init__ : Stmt := inClass (topS 35) 0
theorem sc_Choice___init__ : FnScope ["self", "part", "label", "things", "item"] ["self", "part", "label", "things"] (defScope s_Choice___init__) := ⟨rfl, rfl, rfl, by decide +kernel, rfl, by decide +kernel, by decide +kernel⟩
def T_Choice___init__ (K : PySem.W.Frag) (sp_need_name : Sp) (sp_need : Sp) (g_MOST_ITEMS : V) (x_Item : Addr) (ms_size : List (Addr × Sp)) (W : WX) : TS :=
  (tSeq (tDrop (tCallSD sp_need_name [] (WE W) (tCons (tVar 1) tNil)))
  (tSeq (tDrop (tCallSD sp_need_name [] (WE W) (tCons (tVar 2) tNil)))
  (tSeq (tDrop (tCallSD sp_need [] (WE W) (tCons (tCB (rAll K) (tCons (tLc (iU K (tVar 3)) (gName 4) tYes (tCB (uIsi K) (tCons (tVar 4) (tCons (tC (.ref x_Item)) tNil))) [4]) tNil)) tNil)))
  (tSeq (tDrop (tCallSD sp_need [] (WE W) (tCons (tOp uLe (tCB (rSum K) (tCons (tLc (iU K (tVar 3)) (gName 4) tYes (tMu ms_size "size" (fun _ => E0) (tVar 4) tNil) [4]) tNil)) (tC g_MOST_ITEMS)) tNil)))
  (tSeq (sFld K (tVar 0) (tVar 1) "part")
  (tSeq (sFld K (tVar 0) (tVar 2) "label")
  (sFld K (tVar 0) (tCB (uTuple K) (tCons (tVar 3) tNil)) "things")))))))
theorem p_Choice___init__ {P : Program} {w : World} {K : PySem.W.Frag} {mg : Str → Option Value} {base : Heap} {f : Addr} {k : Nat} {sp_need_name : Sp} (gd_need_name : GX P w K mg base k "need_name" ["text"] sp_need_name) {sp_need : Sp} (gd_need : GX P w K mg base k "need" ["good"] sp_need) {g_MOST_ITEMS : V} {u_MOST_ITEMS : Value} (mg_MOST_ITEMS : mg "MOST_ITEMS" = some u_MOST_ITEMS) (rv_MOST_ITEMS : RelV g_MOST_ITEMS u_MOST_ITEMS) {x_Item : Addr} (mg_Item : mg "Item" = some (.ref x_Item)) {ms_size : List (Addr × Sp)} (md_size : MDs P w K mg base k "size" ms_size) (mz_all : mg "all" = none) (mz_isinstance : mg "isinstance" = none) (mz_sum : mg "sum" = none) (mz_tuple : mg "tuple" = none) (cdv : Value) (A : Around) (outer : List Env) (s : Shared) (H : Hp) (E : XK)
    (hr : Room k (A.deeper (envOfC "Choice.__init__" (defScope s_Choice___init__) s.heap.objs.size f cdv))) :
    PSs (cxOf (L2.CX P w) P w K mg base ["self", "part", "label", "things", "item"] "Choice.__init__" (defScope s_Choice___init__) f cdv A outer s H E) (defBody s_Choice___init__) (T_Choice___init__ K sp_need_name sp_need g_MOST_ITEMS x_Item ms_size (fun cls d _ H => E cls d H)) :=
  (pss_cons (ps_expr (pe_gx gd_need_name (takes_of rfl rfl rfl rfl) hr (by rfl) (pa_cons (pv 1) pa_nil)))
  (pss_cons (ps_expr (pe_gx gd_need_name (takes_of rfl rfl rfl rfl) hr (by rfl) (pa_cons (pv 2) pa_nil)))
  (pss_cons (ps_expr (pe_gx gd_need (takes_of rfl rfl rfl rfl) hr (by rfl) (pa_cons (pe_callB (cu_all rfl rfl) (by rfl) mz_all (by decide +kernel) (pa_cons (pe_lc (own := [("item", 4)]) (g := (gName 4)) (tt := tYes) (te := (tCB (uIsi K) (tCons (tVar 4) (tCons (tC (.ref x_Item)) tNil)))) rfl sc_Choice___init__.nd (pi_u rfl (pv 3)) (blkOk_by (own := [("item", 4)]) (N := ["self", "part", "label", "things", "item"]) (sc := defScope s_Choice___init__) (by decide +kernel)) (fun _ _ _ _ _ => (pg_name (i := 4) sc_Choice___init__.nd rfl (by first | exact Or.inl rfl | exact Or.inr rfl))) (fun _ _ _ _ _ => pts_nil) (fun _ _ _ _ _ => (pe_callB (cu_isiU rfl) (by rfl) mz_isinstance (by decide +kernel) (pa_cons (pv 4) (pa_cons (pe_glob (by rfl) mg_Item rfl) pa_nil))))) pa_nil)) pa_nil)))
  (pss_cons (ps_expr (pe_gx gd_need (takes_of rfl rfl rfl rfl) hr (by rfl) (pa_cons (pe_cmpR ou_le (pe_callB (cu_sum rfl rfl) (by rfl) mz_sum (by decide +kernel) (pa_cons (pe_lc (own := [("item", 4)]) (g := (gName 4)) (tt := tYes) (te := (tMu ms_size "size" (fun _ => E0) (tVar 4) tNil)) rfl sc_Choice___init__.nd (pi_u rfl (pv 3)) (blkOk_by (own := [("item", 4)]) (N := ["self", "part", "label", "things", "item"]) (sc := defScope s_Choice___init__) (by decide +kernel)) (fun _ _ _ _ _ => (pg_name (i := 4) sc_Choice___init__.nd rfl (by first | exact Or.inl rfl | exact Or.inr rfl))) (fun _ _ _ _ _ => pts_nil) (fun _ _ _ _ _ => (pe_mu0 md_size (fun σ => passL0 σ) hr (pv 4)))) pa_nil)) (pe_glob (by rfl) mg_MOST_ITEMS rv_MOST_ITEMS) (nomark _)) pa_nil)))
  (pss_cons (ps_fldU rfl (pv 0) (pv 1) (by rfl))
  (pss_cons (ps_fldU rfl (pv 0) (pv 2) (by rfl))
  (pss_one (ps_fldU rfl (pv 0) (pe_callTy (cu_tuple rfl) (by rfl) mz_tuple (by decide +kernel) (pa_cons (pv 3) pa_nil)) (by rfl)))))))))
/-! Joins___init__: slots 0 self, 1 part, 2 of, 3 brackets, 4 levels, 5 seen, 6 way, 7 words, 8 word -/
abbrev s_Joins___init__ : Stmt := inClass (topS 38) 0
theorem sc_Joins___init__ : FnScope ["self", "part", "of", "brackets", "levels", "seen", "way", "words", "word"] ["self", "part", "of", "brackets", "levels"] (defScope s_Joins___init__) := ⟨rfl, rfl, rfl, by decide +kernel, rfl, by decide +kernel, by decide +kernel⟩
def T_Joins___init__ (K : PySem.W.Frag) (sp_need_name : Sp) (sp_need : Sp) (sp_is_fixed : Sp) (sp_need_level : Sp) (sp_place_of : Sp) (g_MOST_LEVELS : V) (W : WX) : TS :=
  (tSeq (tDrop (tCallSD sp_need_name [] (WE W) (tCons (tVar 1) tNil)))
  (tSeq (tDrop (tCallSD sp_need_name [] (WE W) (tCons (tVar 2) tNil)))
  (tSeq (tDrop (tCallSD sp_need [] (WE W) (tCons (tAndV (tOp (uEq K) (tCB (uLen K) (tCons (tVar 3) tNil)) (tC (.int 2))) (tCB (rAll K) (tCons (tLc (iU K (tVar 3)) (gName 8) tYes (tCall sp_is_fixed [] E0 (tCons (tVar 8) tNil)) [8]) tNil))) tNil)))
  (tSeq (tDrop (tCallSD sp_need [] (WE W) (tCons (tChain uLe uLe (tC (.int 1)) (tCB (uLen K) (tCons (tVar 4) tNil)) (tC g_MOST_LEVELS)) tNil)))
  (tSeq (tAsg (tLst tNil) (gName 5))
  (tSeq (tFor (iU K (tVar 4)) (gTup K 2 (gCons (gName 6) (gCons (gName 7) gNil))) (tSeq (tDrop (tCallSD sp_need_level [] (WE W) (tCons (tVar 6) (tCons (tVar 7) tNil))))
  (tFor (iU K (tVar 7)) (gName 8) (tSeq (tDrop (tCallSD sp_need [] (WE W) (tCons (tOp (uNotIn K) (tTup (tCons (tCall sp_place_of [] E0 (tCons (tVar 6) tNil)) (tCons (tVar 8) tNil))) (tVar 5)) tNil)))
  (tDrop (tBM K "list" rAppend (tVar 5) (tCons (tTup (tCons (tCall sp_place_of [] E0 (tCons (tVar 6) tNil)) (tCons (tVar 8) tNil))) tNil)))))))
  (tSeq (sFld K (tVar 0) (tVar 1) "part")
  (tSeq (sFld K (tVar 0) (tVar 2) "of")
  (tSeq (sFld K (tVar 0) (tCB (uTuple K) (tCons (tVar 3) tNil)) "brackets")
  (sFld K (tVar 0) (tCB (uTuple K) (tCons (tLc (iU K (tVar 4)) (gTup K 2 (gCons (gName 6) (gCons (gName 7) gNil))) tYes (tTup (tCons (tVar 6) (tCons (tCB (uTuple K) (tCons (tVar 7) tNil)) tNil))) [6, 7]) tNil)) "levels"))))))))))
theorem p_Joins___init__ {P : Program} {w : World} {K : PySem.W.Frag} {mg : Str → Option Value} {base : Heap} {f : Addr} {k : Nat} {sp_need_name : Sp} (gd_need_name : GX P w K mg base k "need_name" ["text"] sp_need_name) {sp_need : Sp} (gd_need : GX P w K mg base k "need" ["good"] sp_need) {sp_is_fixed : Sp} (gd_is_fixed : GD P w K mg base k "is_fixed" ["thing"] sp_is_fixed) {sp_need_level : Sp} (gd_need_level : GX P w K mg base k "need_level" ["way", "words"] sp_need_level) {sp_place_of : Sp} (gd_place_of : GD P w K mg base k "place_of" ["way"] sp_place_of) {g_MOST_LEVELS : V} {u_MOST_LEVELS : Value} (mg_MOST_LEVELS : mg "MOST_LEVELS" = some u_MOST_LEVELS) (rv_MOST_LEVELS : RelV g_MOST_LEVELS u_MOST_LEVELS) (mz_len : mg "len" = none) (mz_all : mg "all" = none) (mz_tuple : mg "tuple" = none) (cdv : Value) (A : Around) (outer : List Env) (s : Shared) (H : Hp) (E : XK)
    (hr : Room k (A.deeper (envOfC "Joins.__init__" (defScope s_Joins___init__) s.heap.objs.size f cdv))) :
    PSs (cxOf (L2.CX P w) P w K mg base ["self", "part", "of", "brackets", "levels", "seen", "way", "words", "word"] "Joins.__init__" (defScope s_Joins___init__) f cdv A outer s H E) (defBody s_Joins___init__) (T_Joins___init__ K sp_need_name sp_need sp_is_fixed sp_need_level sp_place_of g_MOST_LEVELS (fun cls d _ H => E cls d H)) :=
  (pss_cons (ps_expr (pe_gx gd_need_name (takes_of rfl rfl rfl rfl) hr (by rfl) (pa_cons (pv 1) pa_nil)))
  (pss_cons (ps_expr (pe_gx gd_need_name (takes_of rfl rfl rfl rfl) hr (by rfl) (pa_cons (pv 2) pa_nil)))
  (pss_cons (ps_expr (pe_gx gd_need (takes_of rfl rfl rfl rfl) hr (by rfl) (pa_cons (pe_and (pe_cmpR (ou_eq rfl (room64 hr)) (pe_callB (cu_len rfl) (by rfl) mz_len (by decide +kernel) (pa_cons (pv 3) pa_nil)) pe_int (nomark _)) (pe_one (pe_callB (cu_all rfl rfl) (by rfl) mz_all (by decide +kernel) (pa_cons (pe_lc (own := [("word", 8)]) (g := (gName 8)) (tt := tYes) (te := (tCall sp_is_fixed [] E0 (tCons (tVar 8) tNil))) rfl sc_Joins___init__.nd (pi_u rfl (pv 3)) (blkOk_by (own := [("word", 8)]) (N := ["self", "part", "of", "brackets", "levels", "seen", "way", "words", "word"]) (sc := defScope s_Joins___init__) (by decide +kernel)) (fun _ _ _ _ _ => (pg_name (i := 8) sc_Joins___init__.nd rfl (by first | exact Or.inl rfl | exact Or.inr rfl))) (fun _ _ _ _ _ => pts_nil) (fun _ _ _ _ _ => (pe_gd gd_is_fixed hr (by rfl) (pa_cons (pv 8) pa_nil)))) pa_nil)))) pa_nil)))
  (pss_cons (ps_expr (pe_gx gd_need (takes_of rfl rfl rfl rfl) hr (by rfl) (pa_cons (pe_chain ou_le ou_le pe_int (pe_callB (cu_len rfl) (by rfl) mz_len (by decide +kernel) (pa_cons (pv 4) pa_nil)) (pe_glob (by rfl) mg_MOST_LEVELS rv_MOST_LEVELS)) pa_nil)))
  (pss_cons (ps_set (i := 5) sc_Joins___init__.nd rfl (Or.inl rfl) (pe_lst pa_nil))
  (pss_cons (ps_for (passes_of rfl) rfl (pi_u rfl (pv 4)) (pg_tup (by rfl) (pgs_cons (pg_name (i := 6) sc_Joins___init__.nd rfl (by first | exact Or.inl rfl | exact Or.inr rfl)) (pgs_cons (pg_name (i := 7) sc_Joins___init__.nd rfl (by first | exact Or.inl rfl | exact Or.inr rfl)) pgs_nil))) (pss_cons (ps_expr (pe_gx gd_need_level (takes_of rfl rfl rfl rfl) hr (by rfl) (pa_cons (pv 6) (pa_cons (pv 7) pa_nil))))
  (pss_one (ps_for (passes_of rfl) rfl (pi_u rfl (pv 7)) (pg_name (i := 8) sc_Joins___init__.nd rfl (by first | exact Or.inl rfl | exact Or.inr rfl)) (pss_cons (ps_expr (pe_gx gd_need (takes_of rfl rfl rfl rfl) hr (by rfl) (pa_cons (pe_cmpR (ou_notin rfl (room65 hr)) (pe_tup (pa_cons (pe_gd gd_place_of hr (by rfl) (pa_cons (pv 6) pa_nil)) (pa_cons (pv 8) pa_nil))) (pv 5) (by rfl)) pa_nil)))
  (pss_one (ps_expr (pe_bm PySem.F.plainAttrs_list PySem.F.slot_list_append PySem.F.type_list_append mt_append (pv 5) (pa_cons (pe_tup (pa_cons (pe_gd gd_place_of hr (by rfl) (pa_cons (pv 6) pa_nil)) (pa_cons (pv 8) pa_nil))) pa_nil)))))))))
  (pss_cons (ps_fldU rfl (pv 0) (pv 1) (by rfl))
  (pss_cons (ps_fldU rfl (pv 0) (pv 2) (by rfl))
  (pss_cons (ps_fldU rfl (pv 0) (pe_callTy (cu_tuple rfl) (by rfl) mz_tuple (by decide +kernel) (pa_cons (pv 3) pa_nil)) (by rfl))
  (pss_one (ps_fldU rfl (pv 0) (pe_callTy (cu_tuple rfl) (by rfl) mz_tuple (by decide +kernel) (pa_cons (pe_lc (own := [("way", 6), ("words", 7)]) (g := (gTup K 2 (gCons (gName 6) (gCons (gName 7) gNil)))) (tt := tYes) (te := (tTup (tCons (tVar 6) (tCons (tCB (uTuple K) (tCons (tVar 7) tNil)) tNil)))) rfl sc_Joins___init__.nd (pi_u rfl (pv 4)) (blkOk_by (own := [("way", 6), ("words", 7)]) (N := ["self", "part", "of", "brackets", "levels", "seen", "way", "words", "word"]) (sc := defScope s_Joins___init__) (by decide +kernel)) (fun _ _ _ _ _ => (pg_tup (by rfl) (pgs_cons (pg_name (i := 6) sc_Joins___init__.nd rfl (by first | exact Or.inl rfl | exact Or.inr rfl)) (pgs_cons (pg_name (i := 7) sc_Joins___init__.nd rfl (by first | exact Or.inl rfl | exact Or.inr rfl)) pgs_nil)))) (fun _ _ _ _ _ => pts_nil) (fun _ _ _ _ _ => (pe_tup (pa_cons (pv 6) (pa_cons (pe_callTy (cu_tuple rfl) (by rfl) mz_tuple (by decide +kernel) (pa_cons (pv 7) pa_nil)) pa_nil))))) pa_nil)) (by rfl))))))))))))
/-! Grammar___init__: slots 0 self, 1 start, 2 choices, 3 joins, 4 labels, 5 joined, 6 choice, 7 one -/
abbrev s_Grammar___init__ : Stmt := inClass (topS 39) 0
theorem sc_Grammar___init__ : FnScope ["self", "start", "choices", "joins", "labels", "joined", "choice", "one"] ["self", "start", "choices", "joins"] (defScope s_Grammar___init__) := ⟨rfl, rfl, rfl, by decide +kernel, rfl, by decide +kernel, by decide +kernel⟩
def T_Grammar___init__ (K : PySem.W.Frag) (sp_need_name : Sp) (sp_need : Sp) (g_MOST_CHOICES : V) (g_MOST_JOINS : V) (W : WX) : TS :=
  (tSeq (tDrop (tCallSD sp_need_name [] (WE W) (tCons (tVar 1) tNil)))
  (tSeq (tDrop (tCallSD sp_need [] (WE W) (tCons (tAndV (tOp uLe (tC (.int 1)) (tOp (uAdd K) (tCB (uLen K) (tCons (tVar 2) tNil)) (tCB (uLen K) (tCons (tVar 3) tNil)))) (tAndV (tOp uLe (tCB (uLen K) (tCons (tVar 2) tNil)) (tC g_MOST_CHOICES)) (tOp uLe (tCB (uLen K) (tCons (tVar 3) tNil)) (tC g_MOST_JOINS)))) tNil)))
  (tSeq (tAsg (tLc (iU K (tVar 2)) (gName 6) tYes (tTup (tCons (tAt K "part" (tVar 6)) (tCons (tAt K "label" (tVar 6)) tNil))) [6]) (gName 4))
  (tSeq (tDrop (tCallSD sp_need [] (WE W) (tCons (tOp (uEq K) (tLenSet K (tVar 4)) (tCB (uLen K) (tCons (tVar 4) tNil))) tNil)))
  (tSeq (tAsg (tLc (iU K (tVar 3)) (gName 7) tYes (tAt K "part" (tVar 7)) [7]) (gName 5))
  (tSeq (tDrop (tCallSD sp_need [] (WE W) (tCons (tOp (uEq K) (tLenSet K (tVar 5)) (tCB (uLen K) (tCons (tVar 5) tNil))) tNil)))
  (tSeq (tDrop (tCallSD sp_need [] (WE W) (tCons (tOp (uEqL K) (tLc (iU K (tVar 2)) (gName 6) (tTest (tOp (uIn K) (tAt K "part" (tVar 6)) (tVar 5))) (tVar 6) [6]) (tLst tNil)) tNil)))
  (tSeq (sFld K (tVar 0) (tVar 1) "start")
  (tSeq (sFld K (tVar 0) (tCB (uTuple K) (tCons (tVar 2) tNil)) "choices")
  (sFld K (tVar 0) (tCB (uTuple K) (tCons (tVar 3) tNil)) "joins"))))))))))
theorem p_Grammar___init__ {P : Program} {w : World} {K : PySem.W.Frag} {mg : Str → Option Value} {base : Heap} {f : Addr} {k : Nat} {sp_need_name : Sp} (gd_need_name : GX P w K mg base k "need_name" ["text"] sp_need_name) {sp_need : Sp} (gd_need : GX P w K mg base k "need" ["good"] sp_need) {g_MOST_CHOICES : V} {u_MOST_CHOICES : Value} (mg_MOST_CHOICES : mg "MOST_CHOICES" = some u_MOST_CHOICES) (rv_MOST_CHOICES : RelV g_MOST_CHOICES u_MOST_CHOICES) {g_MOST_JOINS : V} {u_MOST_JOINS : Value} (mg_MOST_JOINS : mg "MOST_JOINS" = some u_MOST_JOINS) (rv_MOST_JOINS : RelV g_MOST_JOINS u_MOST_JOINS) (mz_len : mg "len" = none) (mz_set : mg "set" = none) (mz_tuple : mg "tuple" = none) (cdv : Value) (A : Around) (outer : List Env) (s : Shared) (H : Hp) (E : XK)
    (hr : Room k (A.deeper (envOfC "Grammar.__init__" (defScope s_Grammar___init__) s.heap.objs.size f cdv))) :
    PSs (cxOf (L2.CX P w) P w K mg base ["self", "start", "choices", "joins", "labels", "joined", "choice", "one"] "Grammar.__init__" (defScope s_Grammar___init__) f cdv A outer s H E) (defBody s_Grammar___init__) (T_Grammar___init__ K sp_need_name sp_need g_MOST_CHOICES g_MOST_JOINS (fun cls d _ H => E cls d H)) :=
  (pss_cons (ps_expr (pe_gx gd_need_name (takes_of rfl rfl rfl rfl) hr (by rfl) (pa_cons (pv 1) pa_nil)))
  (pss_cons (ps_expr (pe_gx gd_need (takes_of rfl rfl rfl rfl) hr (by rfl) (pa_cons (pe_and (pe_cmpR ou_le pe_int (pe_op (ou_add rfl) (pe_callB (cu_len rfl) (by rfl) mz_len (by decide +kernel) (pa_cons (pv 2) pa_nil)) (pe_callB (cu_len rfl) (by rfl) mz_len (by decide +kernel) (pa_cons (pv 3) pa_nil))) (nomark _)) (pe_and (pe_cmpR ou_le (pe_callB (cu_len rfl) (by rfl) mz_len (by decide +kernel) (pa_cons (pv 2) pa_nil)) (pe_glob (by rfl) mg_MOST_CHOICES rv_MOST_CHOICES) (nomark _)) (pe_one (pe_cmpR ou_le (pe_callB (cu_len rfl) (by rfl) mz_len (by decide +kernel) (pa_cons (pv 3) pa_nil)) (pe_glob (by rfl) mg_MOST_JOINS rv_MOST_JOINS) (nomark _))))) pa_nil)))
  (pss_cons (ps_setLc (i := 4) (own := [("choice", 6)]) (g := (gName 6)) (tt := tYes) (te := (tTup (tCons (tAt K "part" (tVar 6)) (tCons (tAt K "label" (tVar 6)) tNil)))) rfl sc_Grammar___init__.nd rfl rfl (sw_true rfl rfl rfl (by decide +kernel)) (pi_u rfl (pv 2)) (blkOk_by (own := [("choice", 6)]) (N := ["self", "start", "choices", "joins", "labels", "joined", "choice", "one"]) (sc := defScope s_Grammar___init__) (by decide +kernel)) (fun _ _ _ _ _ => (pg_name (i := 6) sc_Grammar___init__.nd rfl (by first | exact Or.inl rfl | exact Or.inr rfl))) (fun _ _ _ _ _ => pts_nil) (fun _ _ _ _ _ => (pe_tup (pa_cons (pe_at rfl (pv 6)) (pa_cons (pe_at rfl (pv 6)) pa_nil)))))
  (pss_cons (ps_expr (pe_gx gd_need (takes_of rfl rfl rfl rfl) hr (by rfl) (pa_cons (pe_cmpR (ou_eq rfl (room64 hr)) (pe_lenSet rfl rfl (room64 hr) (by rfl) mz_len (by rfl) mz_set (pv 4)) (pe_callB (cu_len rfl) (by rfl) mz_len (by decide +kernel) (pa_cons (pv 4) pa_nil)) (nomark _)) pa_nil)))
  (pss_cons (ps_set (i := 5) sc_Grammar___init__.nd rfl (Or.inr rfl) (pe_lc (own := [("one", 7)]) (g := (gName 7)) (tt := tYes) (te := (tAt K "part" (tVar 7))) rfl sc_Grammar___init__.nd (pi_u rfl (pv 3)) (blkOk_by (own := [("one", 7)]) (N := ["self", "start", "choices", "joins", "labels", "joined", "choice", "one"]) (sc := defScope s_Grammar___init__) (by decide +kernel)) (fun _ _ _ _ _ => (pg_name (i := 7) sc_Grammar___init__.nd rfl (by first | exact Or.inl rfl | exact Or.inr rfl))) (fun _ _ _ _ _ => pts_nil) (fun _ _ _ _ _ => (pe_at rfl (pv 7)))))
  (pss_cons (ps_expr (pe_gx gd_need (takes_of rfl rfl rfl rfl) hr (by rfl) (pa_cons (pe_cmpR (ou_eq rfl (room64 hr)) (pe_lenSet rfl rfl (room64 hr) (by rfl) mz_len (by rfl) mz_set (pv 5)) (pe_callB (cu_len rfl) (by rfl) mz_len (by decide +kernel) (pa_cons (pv 5) pa_nil)) (nomark _)) pa_nil)))
  (pss_cons (ps_expr (pe_gx gd_need (takes_of rfl rfl rfl rfl) hr (by rfl) (pa_cons (pe_cmpR (ou_eqL rfl (room64 hr)) (pe_lc (own := [("choice", 6)]) (g := (gName 6)) (tt := (tTest (tOp (uIn K) (tAt K "part" (tVar 6)) (tVar 5)))) (te := (tVar 6)) rfl sc_Grammar___init__.nd (pi_u rfl (pv 2)) (blkOk_by (own := [("choice", 6)]) (N := ["self", "start", "choices", "joins", "labels", "joined", "choice", "one"]) (sc := defScope s_Grammar___init__) (by decide +kernel)) (fun _ _ _ _ _ => (pg_name (i := 6) sc_Grammar___init__.nd rfl (by first | exact Or.inl rfl | exact Or.inr rfl))) (fun _ _ _ _ _ => (pts_one (pt_cmpR (ou_in rfl (room65 hr)) (pe_at rfl (pv 6)) (pv 5) (by rfl)))) (fun _ _ _ _ _ => (pv 6))) (pe_lst pa_nil) (nomark _)) pa_nil)))
  (pss_cons (ps_fldU rfl (pv 0) (pv 1) (by rfl))
  (pss_cons (ps_fldU rfl (pv 0) (pe_callTy (cu_tuple rfl) (by rfl) mz_tuple (by decide +kernel) (pa_cons (pv 2) pa_nil)) (by rfl))
  (pss_one (ps_fldU rfl (pv 0) (pe_callTy (cu_tuple rfl) (by rfl) mz_tuple (by decide +kernel) (pa_cons (pv 3) pa_nil)) (by rfl))))))))))))
def letters : List Nat := (Str.ofString "abcdefghijklmnopqrstuvwxyz").cps.toList
abbrev PF (d : Dat) : Post := { nx := fun _ => d = .non, rt := fun d' => d' = d }
/-! ### the law's cells -/
def cell0 (ns : List Int) (k : Int) : Int := if ns.isEmpty then 7919 * k + 11 else ns.getD (k % (ns.length : Int)).toNat 0 * 48271 + 104729 * k + k / (ns.length : Int) * 7919
def cellF (ns : List Int) (k : Int) : Int :=
  (cell0 ns k % 2147483647 * (cell0 ns k % 2147483647) % 2147483629 * (cell0 ns k % 2147483647 * (cell0 ns k % 2147483647) % 2147483629) + 69621 * (cell0 ns k % 2147483647 * (cell0 ns k % 2147483647) % 2147483629) + k) % 2147483587
theorem cellF_lo (ns : List Int) (k : Int) : 0 ≤ cellF ns k := Int.emod_nonneg _ (by decide)
theorem cellF_hi (ns : List Int) (k : Int) : cellF ns k < 2147483587 := Int.emod_lt_of_pos _ (by decide)
def R__law_cell (ds : List Dat) (d : Dat) : Prop := ∃ ns k, ds = [.scr ns, .int k] ∧ ns.length ≤ 63 ∧ 0 ≤ k ∧ k ≤ 1000000 ∧ d = .int (cellF ns k)
theorem r__law_cell {ns : List Int} {k : Int} (h : ns.length ≤ 63) (h0 : 0 ≤ k) (h1 : k ≤ 1000000) : R__law_cell [.scr ns, .int k] (.int (cellF ns k)) := ⟨ns, k, rfl, h, h0, h1, rfl⟩
theorem h__law_cell {K : PySem.W.Frag} {W : WX} (ds : List Dat) (d : Dat) (h : R__law_cell ds d) : SemS K W (T__law_cell K) (slots 4 ds) (PF d) := by
  obtain ⟨ns, k, rfl, hl, h0, h1, rfl⟩ := h
  have main : ∀ ρ', ρ'[1]? = some (Sl.dat (.int k)) → ρ'[2]? = some (Sl.dat (.int (cell0 ns k))) → ρ'.length = 4 → SemS K W (tSeq (tAsg (tOp uMod (tVar 2) (tC (.int 2147483647))) (gName 3))
      (tSeq (tAsg (tOp uMod (tOp uMul (tVar 3) (tVar 3)) (tC (.int 2147483629))) (gName 3))
      (tRet (tOp uMod (tOp (uAdd K) (tOp (uAdd K) (tOp uMul (tVar 3) (tVar 3)) (tOp uMul (tC (.int 69621)) (tVar 3))) (tVar 1)) (tC (.int 2147483587)))))) ρ' (PF (.int (cellF ns k))) := by
    intro ρ' h1' h2' h3'
    obtain ⟨s0, s1, s2, s3, rfl⟩ : ∃ s0 s1 s2 s3, ρ' = [s0, s1, s2, s3] := by
      match ρ', h3' with
      | [a, b, c, d], _ => exact ⟨a, b, c, d, rfl⟩
    cases h1'
    cases h2'
    apply ss_seq
    apply ss_asg
    · walk_at "sem"
    apply ss_seq
    apply ss_asg
    · walk_at "sem"
    apply ss_ret
    · walk_at "sem"
    · rfl
  apply ss_seq
  apply ss_asg
  · walk_at "sem"
  apply ss_seq
  apply ss_if
  · walk_at "test"
  · intro hb
    have hne : ns.isEmpty = false := by
      cases ns with
      | nil => cases hb
      | cons a r => rfl
    have hp : 0 < ns.length := by
      cases ns with
      | nil => cases hb
      | cons a r => exact Nat.succ_pos _
    have hx : atI ns (k % (ns.length : Int)) = some (ns.getD (k % (ns.length : Int)).toNat 0) := atI_getD 0 (Int.emod_nonneg _ (by omega)) (Int.emod_lt_of_pos _ (by omega))
    apply ss_seq
    apply ss_asg
    · walk_at "sem"
    apply ss_asg
    · walk_at "sem"
    refine main _ rfl ?_ rfl
    unfold cell0
    rw [hne]
    rfl
  · intro hb
    have hne : ns.isEmpty = true := by
      cases ns with
      | nil => rfl
      | cons a r => cases hb
    apply ss_next
    refine main _ rfl ?_ rfl
    unfold cell0
    rw [hne]
    rfl
def signs : List Nat := (Str.ofString "!#$&()*+,-./:;<=>?@\x5b]^{|}~").cps.toList
/-! ### _law_signs, _law_fixed_by -/
def R__law_signs (ds : List Dat) (d : Dat) : Prop := ds = [] ∧ d = .txt signs
theorem h__law_signs {K : PySem.W.Frag} {W : WX} (ds : List Dat) (d : Dat) (h : R__law_signs ds d) : SemS K W (T__law_signs K) (slots 0 ds) (PF d) := by
  obtain ⟨rfl, rfl⟩ := h
  apply ss_ret
  · walk_at "sem"
  · rfl
def usual : List (List Nat) := (Txt.split (Str.ofString "if in then a ab < <= = == ( ) - -> + zz no > >=") (Str.ofString " ")).map fun s => s.cps.toList
theorem usual_len : usual.length = 18 := by decide +kernel
theorem usual_fit : ∀ t ∈ usual, t.length ≤ 8 := by decide +kernel
theorem letters_len : letters.length = 26 := by decide +kernel
theorem signs_len : signs.length = 26 := by decide +kernel
def emp : List Nat := (Str.ofString "").cps.toList
theorem emp_nil : emp = [] := by decide +kernel
def fixedBy (c : Int) : List Nat :=
  if decide (0 < c % 3) then usual.getD (c / 3 % 18).toNat []
  else if decide (c / 3 % 2 = 0) then joinL emp ((List.range (1 + c / 2000 % 8).toNat).map fun k : Nat => [letters.getD ((c / 6 + (k : Int) * (1 + c / 78 % 25)) % 26).toNat 0])
  else joinL emp ((List.range (1 + c / 5000 % 3).toNat).map fun k : Nat => [signs.getD ((c / 6 + (k : Int) * (c / 162 % 26)) % 26).toNat 0])
theorem joinL_len {α : Type} (f : α → List Nat) (m : Nat) : ∀ xs : List α, (∀ x ∈ xs, (f x).length ≤ m) → (joinL emp (xs.map f)).length ≤ xs.length * m
  | [], _ => Nat.zero_le _
  | [x], h => by
    have h1 := h x List.mem_cons_self
    show (f x).length ≤ 1 * m
    omega
  | x :: y :: r, h => by
    have h1 := h x List.mem_cons_self
    have h2 := joinL_len f m (y :: r) fun z hz => h z (List.mem_cons_of_mem _ hz)
    show (f x ++ emp ++ joinL emp ((y :: r).map f)).length ≤ (r.length + 1 + 1) * m
    rw [emp_nil] at h2 ⊢
    rw [List.length_append, List.length_append, Nat.succ_mul]
    rw [List.length_cons] at h2
    simp only [List.length_nil]
    omega
theorem getD_mem_or {α : Type} (P : α → Prop) (d : α) (hd : P d) : ∀ (xs : List α) (i : Nat), (∀ x ∈ xs, P x) → P (xs.getD i d)
  | [], i, _ => by cases i <;> exact hd
  | x :: r, 0, h => h x List.mem_cons_self
  | x :: r, i + 1, h => getD_mem_or P d hd r i fun y hy => h y (List.mem_cons_of_mem _ hy)
theorem fixedBy_len (c : Int) : (fixedBy c).length ≤ 8 := by
  unfold fixedBy
  split
  · exact getD_mem_or (fun t => t.length ≤ 8) [] (Nat.zero_le _) usual _ usual_fit
  · split
    · refine Nat.le_trans (joinL_len _ 1 _ fun x _ => Nat.le_refl _) ?_
      rw [List.length_range]; omega
    · refine Nat.le_trans (joinL_len _ 1 _ fun x _ => Nat.le_refl _) ?_
      rw [List.length_range]; omega
def R__law_fixed_by (ds : List Dat) (d : Dat) : Prop := ∃ c, ds = [.int c] ∧ 0 ≤ c ∧ c < 2147483648 ∧ d = .txt (fixedBy c)
theorem r__law_fixed_by {c : Int} (h0 : 0 ≤ c) (h1 : c < 2147483648) : R__law_fixed_by [.int c] (.txt (fixedBy c)) := ⟨c, rfl, h0, h1, rfl⟩
theorem splitE : (Txt.split (strL (Str.ofString "if in then a ab < <= = == ( ) - -> + zz no > >=").cps.toList) (strL (Str.ofString " ").cps.toList)) = Txt.split (Str.ofString "if in then a ab < <= = == ( ) - -> + zz no > >=") (Str.ofString " ") := by
  unfold strL
  rw [Array.toArray_toList, Array.toArray_toList]
local macro_rules | `(tactic| walk_at "fn") => `(tactic| exact ⟨rfl, rfl⟩)
theorem h__law_fixed_by {K : PySem.W.Frag} {W : WX} (ds : List Dat) (d : Dat) (h : R__law_fixed_by ds d) : SemS K W (T__law_fixed_by K (spD K R__law_signs)) (slots 5 ds) (PF d) := by
  obtain ⟨c, rfl, h0, h1, rfl⟩ := h
  have hU : (Dat.lst ((Txt.split (strL (Str.ofString "if in then a ab < <= = == ( ) - -> + zz no > >=").cps.toList) (strL (Str.ofString " ").cps.toList)).map fun s => .txt s.cps.toList)) = .lst (usual.map .txt) := by
    rw [splitE]
    unfold usual
    rw [List.map_map]
    rfl
  have hul := usual_len
  have hll := letters_len
  have hsl := signs_len
  apply ss_seq
  apply ss_asg
  · walk_at "sem"
  apply ss_seq
  refine ss_asg (d := .lst (usual.map .txt)) (s_is (s_m1 s_str s_str (ms_split (by decide +kernel) (by decide +kernel))) hU) ?_
  apply ss_seq
  apply ss_if
  · walk_at "test"
  · intro hb
    have hx : atI (usual.map Dat.txt) (c / 3 % 18) = some (.txt (usual.getD (c / 3 % 18).toNat [])) := atI_mapD _ [] (by omega) (by omega)
    apply ss_ret
    · walk_at "sem"
    · show Dat.txt _ = Dat.txt (fixedBy c)
      unfold fixedBy
      rw [if_pos hb]
  · intro hb
    apply ss_next
    apply ss_seq
    apply ss_if
    · walk_at "test"
    · intro hb2
      apply ss_seq
      apply ss_asg
      · walk_at "sem"
      apply ss_ret
      · apply s_m1
        · exact s_str
        · apply s_ofN
          apply sn_lcM
          · walk_at "iter"
          · rw [List.length_range]; unfold sizeLine; omega
          · intro k hk
            have hk2 := List.mem_range.mp hk
            have hx : atI letters ((c / 6 + (k : Int) * (1 + c / 78 % 25)) % 26) = some (letters.getD ((c / 6 + (k : Int) * (1 + c / 78 % 25)) % 26).toNat 0) := atI_getD 0 (by omega) (by omega)
            apply s_op
            · apply s_var; rfl
            · apply s_op
              · apply s_op
                · walk_at "sem"
                · apply s_op
                  · walk_at "sem"
                  · walk_at "sem"
                  · apply os_mul
                    exact Or.inr ⟨by omega, by omega⟩
                · walk_at "ops"
              · walk_at "sem"
              · walk_at "ops"
            · apply os_ixT
              · exact hx
              · show letters.length ≤ sizeLine
                rw [hll]; decide
        · apply ms_joinM
          have := sum_len_le (fun k : Nat => [letters.getD ((c / 6 + (k : Int) * (1 + c / 78 % 25)) % 26).toNat 0]) 1 (List.range (1 + c / 2000 % 8).toNat) fun _ _ => Nat.le_refl _
          rw [List.length_range] at this ⊢
          have e0 : (Str.ofString "").cps.toList.length = 0 := by decide +kernel
          rw [e0]
          omega
      · show Dat.txt _ = Dat.txt (fixedBy c)
        unfold fixedBy
        rw [if_neg (by rw [hb]; decide), if_pos hb2]
        rfl
    · intro hb2
      apply ss_next
      apply ss_seq
      apply ss_asg
      · walk_at "sem"
      apply ss_ret
      · apply s_m1
        · exact s_str
        · apply s_ofN
          apply sn_lcM
          · walk_at "iter"
          · rw [List.length_range]; unfold sizeLine; omega
          · intro k hk
            have hk2 := List.mem_range.mp hk
            have hx : atI signs ((c / 6 + (k : Int) * (c / 162 % 26)) % 26) = some (signs.getD ((c / 6 + (k : Int) * (c / 162 % 26)) % 26).toNat 0) := atI_getD 0 (by omega) (by omega)
            apply s_op
            · walk_at "sem"
            · apply s_op
              · apply s_op
                · walk_at "sem"
                · apply s_op
                  · walk_at "sem"
                  · walk_at "sem"
                  · apply os_mul
                    exact Or.inr ⟨by omega, by omega⟩
                · walk_at "ops"
              · walk_at "sem"
              · walk_at "ops"
            · apply os_ixT
              · exact hx
              · rw [hsl]; decide
        · apply ms_joinM
          have := sum_len_le (fun k : Nat => [signs.getD ((c / 6 + (k : Int) * (c / 162 % 26)) % 26).toNat 0]) 1 (List.range (1 + c / 5000 % 3).toNat) fun _ _ => Nat.le_refl _
          rw [List.length_range] at this ⊢
          have e0 : (Str.ofString "").cps.toList.length = 0 := by decide +kernel
          rw [e0]
          omega
      · show Dat.txt _ = Dat.txt (fixedBy c)
        unfold fixedBy
        rw [if_neg (by rw [hb]; decide), if_neg (by rw [hb2]; decide)]
        rfl
abbrev PF0 (d : Dat) : Post := { nx := fun _ => d = .non, rt := fun d' => d' = d }
/-! words -/
/-! ### is_of -/
def isOf (t s : List Nat) (m : Int) : Bool := (decide (1 ≤ (t.length : Int)) && decide ((t.length : Int) ≤ m)) && t.all fun c => decide (c ∈ s)
def R_is_of (ds : List Dat) (d : Dat) : Prop := ∃ t s m, ds = [.txt t, .txt s, .int m] ∧ t.length ≤ sizeLine ∧ d = .bl (isOf t s m)
theorem r_is_of {t s : List Nat} {m : Int} (h : t.length ≤ sizeLine) : R_is_of [.txt t, .txt s, .int m] (.bl (isOf t s m)) := ⟨t, s, m, rfl, h, rfl⟩
theorem h_is_of {K : PySem.W.Frag} {W : WX} (ds : List Dat) (d : Dat) (h : R_is_of ds d) : SemS K W (T_is_of K) (slots 4 ds) (PF d) := by
  obtain ⟨t, s, m, rfl, hl, rfl⟩ := h
  apply ss_ret
  · walk_at "sem"
  · rfl
local macro_rules | `(tactic| walk_at "fn") => `(tactic| (apply r_is_of; walk_at "side"))
/-! ### is_fixed -/
def isFixed (t : List Nat) : Bool := isOf t letters 8 || isOf t signs 3
def fixedD : Dat → Bool
  | .txt t => isFixed t
  | _ => false
def R_is_fixed (ds : List Dat) (d : Dat) : Prop := ∃ x ty, ds = [x] ∧ tyD x = some ty ∧ txtFits x ∧ d = .bl (fixedD x)
theorem r_is_fixedT {t : List Nat} (h : t.length ≤ sizeLine) : R_is_fixed [.txt t] (.bl (isFixed t)) := ⟨_, _, rfl, rfl, h, rfl⟩
theorem h_is_fixed {K : PySem.W.Frag} {W : WX} {gL gM gS gN : V} (hL : ∀ G, DR K G gL (.txt letters)) (hM : ∀ G, DR K G gM (.int 8)) (hS : ∀ G, DR K G gS (.txt signs)) (hN : ∀ G, DR K G gN (.int 3))
    (ds : List Dat) (d : Dat) (h : R_is_fixed ds d) : SemS K W (T_is_fixed K (spD K R_is_of) gL gM gS gN) (slots 1 ds) (PF d) := by
  obtain ⟨x, ty, rfl, ht, hf, rfl⟩ := h
  cases x with
  | txt t =>
    have hf : t.length ≤ sizeLine := hf
    apply ss_ret
    · walk_at "sem"
    · rfl
  | ins C fs => cases ht
  | scr ns => cases ht
  | ty n => cases ht
  | cls n => cases ht
  | exc C fs => cases ht
  | _ =>
    refine ss_ret (s_andB (k := false) (l := false) ?_ (fun h => by cases h)) rfl
    walk_at "sem"
/-! ### is_kind -/
def open3 : List (List Nat) := [(Str.ofString "NAME").cps.toList, (Str.ofString "NUMBER").cps.toList, (Str.ofString "QUOTE").cps.toList]
def quo : List Nat := (Str.ofString "'").cps.toList
def isKind (t : List Nat) : Bool := decide (t ∈ open3) || (decide (cutL t none (some 1) = quo) && isFixed (cutL t (some 1) none))
def kindD : Dat → Bool
  | .txt t => isKind t
  | _ => false
def R_is_kind (ds : List Dat) (d : Dat) : Prop := ∃ x ty, ds = [x] ∧ tyD x = some ty ∧ txtFits x ∧ d = .bl (kindD x)
theorem r_is_kindT {t : List Nat} (h : t.length ≤ sizeLine) : R_is_kind [.txt t] (.bl (isKind t)) := ⟨_, _, rfl, rfl, h, rfl⟩
local macro_rules | `(tactic| walk_at "fn") => `(tactic| (apply r_is_fixedT; walk_at "side"))
theorem h_is_kind {K : PySem.W.Frag} {W : WX} {gO : V} (hO : ∀ G, DR K G gO (.tup (open3.map .txt)))
    (ds : List Dat) (d : Dat) (h : R_is_kind ds d) : SemS K W (T_is_kind K (spD K R_is_fixed) gO) (slots 1 ds) (PF d) := by
  obtain ⟨x, ty, rfl, ht, hf, rfl⟩ := h
  cases x with
  | txt t =>
    have hf : t.length ≤ sizeLine := hf
    have hc := cutL_len t (some 1) none
    apply ss_seq
    apply ss_if
    · walk_at "test"
    · intro h; cases h
    · intro h
      apply ss_next
      apply ss_ret
      · walk_at "sem"
      · rfl
  | ins C fs => cases ht
  | scr ns => cases ht
  | ty n => cases ht
  | cls n => cases ht
  | exc C fs => cases ht
  | _ =>
    apply ss_seq
    apply ss_if
    · walk_at "test"
    · intro h
      apply ss_ret
      · walk_at "sem"
      · rfl
    · intro h; cases h
def fixedOf (t : List Nat) : Dat := if decide (t ∈ open3) then .non else .txt (cutL t (some 1) none)
def R_fixed_of (ds : List Dat) (d : Dat) : Prop := ∃ t, ds = [.txt t] ∧ t.length ≤ sizeLine ∧ d = fixedOf t
theorem r_fixed_of {t : List Nat} (h : t.length ≤ sizeLine) : R_fixed_of [.txt t] (fixedOf t) := ⟨_, rfl, h, rfl⟩
theorem h_fixed_of {K : PySem.W.Frag} {W : WX} {gO : V} (hO : ∀ G, DR K G gO (.tup (open3.map .txt))) (ds : List Dat) (d : Dat) (h : R_fixed_of ds d) : SemS K W (T_fixed_of K gO) (slots 1 ds) (PF d) := by
  obtain ⟨t, rfl, hl, rfl⟩ := h
  apply ss_ret
  · walk_at "sem"
  · rfl


/-! ### names -/
def kept : List (List Nat) := [(Str.ofString "start").cps.toList, (Str.ofString "joins").cps.toList, (Str.ofString "in").cps.toList, (Str.ofString "left").cps.toList, (Str.ofString "right").cps.toList, (Str.ofString "alone").cps.toList, (Str.ofString "ahead").cps.toList, (Str.ofString "behind").cps.toList]
def isName (t : List Nat) : Bool := isOf t letters 8 && !decide (t ∈ kept)
def R_is_name (ds : List Dat) (d : Dat) : Prop := ∃ t, ds = [.txt t] ∧ t.length ≤ 1000000 ∧ d = .bl (isName t)
theorem r_is_name {t : List Nat} (h : t.length ≤ 1000000) : R_is_name [.txt t] (.bl (isName t)) := ⟨t, rfl, h, rfl⟩
local macro_rules | `(tactic| walk_at "fn") => `(tactic| (apply r_is_of; walk_at "side"))
theorem h_is_name {K : PySem.W.Frag} {W : WX} {gL gM gK : V} (hL : ∀ G, DR K G gL (.txt letters)) (hM : ∀ G, DR K G gM (.int 8)) (hK : ∀ G, DR K G gK (.tup (kept.map .txt))) (ds : List Dat) (d : Dat) (h : R_is_name ds d) : SemS K W (T_is_name K (spD K R_is_of) gL gM gK) (slots 1 ds) (PF d) := by
  obtain ⟨t, rfl, hl, rfl⟩ := h
  have hS : sizeLine = 16777216 := rfl
  apply ss_ret
  · walk_at "sem"
  · rfl
def R_need_name (C : Addr) (ds : List Dat) (o : Out) : Prop := ∃ t, ds = [.txt t] ∧ t.length ≤ 1000000 ∧ o = if isName t then .val .non else .exc C []
local macro_rules | `(tactic| walk_at "fn") => `(tactic| (apply r_is_name; walk_at "side"))
theorem h_need_name {K : PySem.W.Frag} {C : Addr} (W : WX) (ds : List Dat) (o : Out) (h : R_need_name C ds o) : SemS K W (T_need_name K (spD K R_is_name) C W) (slots 1 ds) (PO o) := by
  obtain ⟨t, rfl, hl, rfl⟩ := h
  apply ss_if
  · walk_at "test"
  · intro hb
    have hb : isName t = false := by simpa using hb
    rw [hb]
    exact sr_own ⟨rfl, rfl⟩
  · intro hb
    have hb : isName t = true := by simpa using hb
    rw [hb]
    exact ss_next rfl
def R_quoted (ds : List Dat) (d : Dat) : Prop := ∃ t, ds = [.txt t] ∧ t.length ≤ 1000000 ∧ d = .txt (39 :: t ++ [39])
theorem r_quoted {t : List Nat} (h : t.length ≤ 1000000) : R_quoted [.txt t] (.txt (39 :: t ++ [39])) := ⟨t, rfl, h, rfl⟩
theorem quo1 : quo = [39] := by decide +kernel
theorem h_quoted {K : PySem.W.Frag} {W : WX} (ds : List Dat) (d : Dat) (h : R_quoted ds d) : SemS K W (T_quoted K) (slots 1 ds) (PF d) := by
  obtain ⟨t, rfl, hl, rfl⟩ := h
  have hS : sizeLine = 16777216 := rfl
  have hq : quo.length = 1 := by rw [quo1]; rfl
  refine ss_ret (s_is (d := .txt (quo ++ t ++ quo)) (s_op (a := .txt (quo ++ t)) (b := .txt quo) (s_op (a := .txt quo) (b := .txt t) s_str (s_var rfl) (os_addT (by omega))) s_str (os_addT (by rw [List.length_append]; omega))) (by rw [quo1]; rfl)) rfl
/-! ### items -/
inductive PIt where
  | part (n : List Nat) | word (k : List Nat)
inductive Itm where
  | pl (p : PIt) | maybe (l : List PIt) | again (l : List PIt) (b : Option (List Nat))
structure Cs where
  P : Addr
  W : Addr
  M : Addr
  A : Addr
def pins (c : Cs) : PIt → Dat
  | .part n => .ins c.P [("name", .txt n)]
  | .word k => .ins c.W [("kind", .txt k)]
def betD : Option (List Nat) → Dat
  | none => .non
  | some b => .txt b
def iins (c : Cs) : Itm → Dat
  | .pl p => pins c p
  | .maybe l => .ins c.M [("things", .tup (l.map (pins c)))]
  | .again l b => .ins c.A [("things", .tup (l.map (pins c))), ("between", betD b)]
def tPart : List Nat := (Str.ofString "part").cps.toList
def tWord : List Nat := (Str.ofString "word").cps.toList
def tMaybe : List Nat := (Str.ofString "maybe").cps.toList
def tAgain : List Nat := (Str.ofString "again").cps.toList
def ptold : PIt → Dat
  | .part n => .tup [.txt tPart, .txt n]
  | .word k => .tup [.txt tWord, .txt k]
def itold : Itm → Dat
  | .pl p => ptold p
  | .maybe l => .tup [.txt tMaybe, .tup (l.map ptold)]
  | .again l b => .tup [.txt tAgain, .tup (l.map ptold), betD b]
/-- what is known of the classes -/
structure Kc (K : PySem.W.Frag) (c : Cs) : Prop where
  P : InsC K c.P
  W : InsC K c.W
  M : InsC K c.M
  A : InsC K c.A
  nP : NoAttr K c.P "name"
  nW : NoAttr K c.W "kind"
  nM : NoAttr K c.M "things"
  nA : NoAttr K c.A "things"
  bA : NoAttr K c.A "between"
  PP : PySem.W.kitOne K (.ref c.P) (.ref c.P) = some true
  PW : PySem.W.kitOne K (.ref c.P) (.ref c.W) = some false
  PM : PySem.W.kitOne K (.ref c.P) (.ref c.M) = some false
  PA : PySem.W.kitOne K (.ref c.P) (.ref c.A) = some false
  WP : PySem.W.kitOne K (.ref c.W) (.ref c.P) = some false
  WW : PySem.W.kitOne K (.ref c.W) (.ref c.W) = some true
  WM : PySem.W.kitOne K (.ref c.W) (.ref c.M) = some false
  WA : PySem.W.kitOne K (.ref c.W) (.ref c.A) = some false
  MP : PySem.W.kitOne K (.ref c.M) (.ref c.P) = some false
  MW : PySem.W.kitOne K (.ref c.M) (.ref c.W) = some false
  MM : PySem.W.kitOne K (.ref c.M) (.ref c.M) = some true
  MA : PySem.W.kitOne K (.ref c.M) (.ref c.A) = some false
  AP : PySem.W.kitOne K (.ref c.A) (.ref c.P) = some false
  AW : PySem.W.kitOne K (.ref c.A) (.ref c.W) = some false
  AM : PySem.W.kitOne K (.ref c.A) (.ref c.M) = some false
  AA : PySem.W.kitOne K (.ref c.A) (.ref c.A) = some true
/-! ### Part -/
def R_Part (c : Cs) (X : Addr) (ds : List Dat) (o : Out) : Prop := ∃ t, ds = [.txt t] ∧ t.length ≤ 1000000 ∧ o = if isName t then .mt (.ins c.P [("name", .dat (.txt t))]) else .exc X []
theorem h_Part___init__ {K : PySem.W.Frag} {c : Cs} {X : Addr} (k : Kc K c) (W : WX) (a : Addr) (ds : List Dat) (o : Out) (h : R_Part c X ds o) : SemS K W (T_Part___init__ K (spO K (R_need_name X)) W) (.mt (.me a (.ins c.P [])) :: slots 1 ds) (PI a o) := by
  obtain ⟨t, rfl, hl, rfl⟩ := h
  apply ss_seq
  have hR : R_need_name X [.txt t] (if isName t then .val .non else .exc X []) := ⟨t, rfl, hl, rfl⟩
  cases hn : isName t with
  | true =>
    rw [hn] at hR
    refine ss_drop (s_callO (sa_cons (s_var rfl) sa_nil) hR) ?_
    exact ss_fld (os := []) rfl (sm_dat (s_var rfl)) k.P.cl k.nP (by decide) rfl
  | false =>
    rw [hn] at hR
    exact sx_drop (sx_call (sa_cons (s_var rfl) sa_nil) hR) ⟨rfl, rfl⟩
def R_Part_told (c : Cs) (ds : List Dat) (o : Out) : Prop := ∃ t, ds = [pins c (.part t)] ∧ o = .val (ptold (.part t))
theorem h_Part_told {K : PySem.W.Frag} {c : Cs} (k : Kc K c) (W : WX) (ds : List Dat) (o : Out) (h : R_Part_told c ds o) : SemS K W (T_Part_told K W) (slots 1 ds) (PO o) := by
  obtain ⟨t, rfl, rfl⟩ := h
  exact ss_ret (d := ptold (.part t)) (s_tup (sa_cons (a := .txt tPart) s_str (sa_cons (s_fldI (s_var rfl) k.P.cl k.nP rfl) sa_nil)) (by show 2 ≤ sizeLine; decide)) rfl
def R_Part_text (c : Cs) (ds : List Dat) (o : Out) : Prop := ∃ t, ds = [pins c (.part t)] ∧ o = .val (.txt t)
theorem h_Part_text {K : PySem.W.Frag} {c : Cs} (k : Kc K c) (W : WX) (ds : List Dat) (o : Out) (h : R_Part_text c ds o) : SemS K W (T_Part_text K W) (slots 1 ds) (PO o) := by
  obtain ⟨t, rfl, rfl⟩ := h
  exact ss_ret (d := .txt t) (s_fldI (s_var rfl) k.P.cl k.nP rfl) rfl
/-! ### Word -/
theorem r_is_kindO {t : List Nat} (h : t.length ≤ 1000000) : R_is_kind [.txt t] (.bl (isKind t)) := r_is_kindT (by unfold sizeLine; omega)
def R_Word (c : Cs) (X : Addr) (ds : List Dat) (o : Out) : Prop := ∃ t, ds = [.txt t] ∧ t.length ≤ 1000000 ∧ o = if isKind t then .mt (.ins c.W [("kind", .dat (.txt t))]) else .exc X []
theorem h_Word___init__ {K : PySem.W.Frag} {c : Cs} {X : Addr} (k : Kc K c) (W : WX) (a : Addr) (ds : List Dat) (o : Out) (h : R_Word c X ds o) : SemS K W (T_Word___init__ K (spD K R_is_kind) X W) (.mt (.me a (.ins c.W [])) :: slots 1 ds) (PI a o) := by
  obtain ⟨t, rfl, hl, rfl⟩ := h
  apply ss_seq
  refine ss_if (k := !isKind t) (st_not (st_bl (s_call (sa_cons (s_var rfl) sa_nil) (r_is_kindO hl)))) (fun hb => ?_) (fun hb => ?_)
  · have hb : isKind t = false := by simpa using hb
    rw [hb]
    exact sr_own ⟨rfl, rfl⟩
  · have hb : isKind t = true := by simpa using hb
    rw [hb]
    apply ss_next
    exact ss_fld (os := []) rfl (sm_dat (s_var rfl)) k.W.cl k.nW (by decide) rfl
def R_Word_told (c : Cs) (ds : List Dat) (o : Out) : Prop := ∃ t, ds = [pins c (.word t)] ∧ o = .val (ptold (.word t))
theorem h_Word_told {K : PySem.W.Frag} {c : Cs} (k : Kc K c) (W : WX) (ds : List Dat) (o : Out) (h : R_Word_told c ds o) : SemS K W (T_Word_told K W) (slots 1 ds) (PO o) := by
  obtain ⟨t, rfl, rfl⟩ := h
  exact ss_ret (d := ptold (.word t)) (s_tup (sa_cons (a := .txt tWord) s_str (sa_cons (s_fldI (s_var rfl) k.W.cl k.nW rfl) sa_nil)) (by show 2 ≤ sizeLine; decide)) rfl
def wtext (t : List Nat) : List Nat := if decide (t ∈ open3) then t else 39 :: cutL t (some 1) none ++ [39]
def R_Word_text (c : Cs) (ds : List Dat) (o : Out) : Prop := ∃ t, ds = [pins c (.word t)] ∧ t.length ≤ 1000000 ∧ o = .val (.txt (wtext t))
theorem h_Word_text {K : PySem.W.Frag} {c : Cs} {gO : V} (hO : ∀ G, DR K G gO (.tup (open3.map .txt))) (k : Kc K c) (W : WX) (ds : List Dat) (o : Out) (h : R_Word_text c ds o) : SemS K W (T_Word_text K (spD K R_quoted) (spD K R_fixed_of) gO W) (slots 1 ds) (PO o) := by
  obtain ⟨t, rfl, hl, rfl⟩ := h
  have hS : sizeLine = 16777216 := rfl
  have hc := cutL_len t (some 1) none
  refine ss_ret (d := .txt (wtext t)) (s_is (s_if (k := decide (t ∈ open3)) (a := .txt t) (b := .txt (39 :: cutL t (some 1) none ++ [39])) (st_test (s_op (s_fldI (s_var rfl) k.W.cl k.nW rfl) (s_c hO) os_inTT)) (fun _ => s_fldI (s_var rfl) k.W.cl k.nW rfl) (fun hb => ?_)) ?_) rfl
  · refine s_call (sa_cons (a := .txt (cutL t (some 1) none)) (s_call (sa_cons (s_fldI (s_var rfl) k.W.cl k.nW rfl) sa_nil) ⟨t, rfl, by omega, ?_⟩) sa_nil) (r_quoted (by omega))
    unfold fixedOf
    rw [hb]
    rfl
  · unfold wtext
    cases decide (t ∈ open3) <;> rfl
/-! ### within -/
def isPl : Itm → Bool
  | .pl _ => true
  | _ => false
def innerOk (l : List Itm) : Bool := !l.isEmpty && l.all isPl
theorem ty_itm {K : PySem.W.Frag} {c : Cs} (k : Kc K c) (x : Itm) : ∃ C, TyOf K (iins c x) (.ref C) ∧ PySem.W.kitAny K (.ref C) [.ref c.P, .ref c.W] = some (isPl x) := by
  cases x with
  | pl p =>
    cases p with
    | part n => exact ⟨c.P, ty_ins k.P, kitAny_cons (r := true) k.PP (fun z => by cases z) (fun _ => rfl)⟩
    | word n => exact ⟨c.W, ty_ins k.W, kitAny_cons (r := true) k.WP (fun _ => kitAny_cons (r := true) k.WW (fun z => by cases z) (fun _ => rfl)) (fun _ => rfl)⟩
  | maybe l => exact ⟨c.M, ty_ins k.M, kitAny_cons (r := false) k.MP (fun _ => kitAny_cons (r := false) k.MW (fun _ => rfl) (fun z => by cases z)) (fun z => by cases z)⟩
  | again l b => exact ⟨c.A, ty_ins k.A, kitAny_cons (r := false) k.AP (fun _ => kitAny_cons (r := false) k.AW (fun _ => rfl) (fun z => by cases z)) (fun z => by cases z)⟩
def R_need_inner (c : Cs) (X : Addr) (ds : List Dat) (o : Out) : Prop := ∃ l : List Itm, ds = [.lst (l.map (iins c))] ∧ l.length ≤ 1000 ∧ o = if innerOk l then .val .non else .exc X []
theorem h_need_inner {K : PySem.W.Frag} {c : Cs} {X : Addr} (k : Kc K c) (W : WX) (ds : List Dat) (o : Out) (h : R_need_inner c X ds o) : SemS K W (T_need_inner K c.P c.W X W) (slots 2 ds) (PO o) := by
  obtain ⟨l, rfl, hl, rfl⟩ := h
  have hS : sizeLine = 16777216 := rfl
  refine ss_if (k := decide (((l.map (iins c)).length : Int) = 0) || !(l.all isPl)) (st_or (st_test ?_) (fun _ => st_not (st_bl (s_cb (sa_cons (s_ofN (sn_lcM (xs := l) (enc := iins c) (g := fun x => .bl (isPl x)) (si_u (s_var rfl) rfl) (by omega) fun x _ => ?_)) sa_nil) cs_allM)))) (fun hb => ?_) (fun hb => ?_)
  · walk_at "sem"
  · obtain ⟨C, t1, t2⟩ := ty_itm k x
    exact s_cb (sa_cons (a := iins c x) (s_var rfl) (sa_cons (a := .tup [.cls c.P, .cls c.W]) (s_tup (sa_cons s_cls (sa_cons s_cls sa_nil)) (by show 2 ≤ sizeLine; decide)) sa_nil)) (cs_isiTT t1 rfl t2)
  · have hb : innerOk l = false := by
      unfold innerOk
      cases l with
      | nil => rfl
      | cons a r =>
        rw [decide_eq_false (by rw [List.length_map, List.length_cons]; omega), Bool.false_or] at hb
        have : (a :: r).all isPl = false := by
          cases h : (a :: r).all isPl with
          | true => rw [h] at hb; cases hb
          | false => rfl
        rw [this]; rfl
    rw [hb]
    exact sr_own ⟨rfl, rfl⟩
  · have hb : innerOk l = true := by
      unfold innerOk
      cases l with
      | nil => simp at hb
      | cons a r =>
        rw [Bool.or_eq_false_iff] at hb
        have : (a :: r).all isPl = true := by simpa using hb.2
        rw [this]; rfl
    rw [hb]
    exact ss_next rfl
/-! ### Maybe -/
def R_Maybe (c : Cs) (X : Addr) (ds : List Dat) (o : Out) : Prop := ∃ l : List Itm, ds = [.lst (l.map (iins c))] ∧ l.length ≤ 1000 ∧ o = if innerOk l then .mt (.ins c.M [("things", .dat (.tup (l.map (iins c))))]) else .exc X []
theorem h_Maybe___init__ {K : PySem.W.Frag} {c : Cs} {X : Addr} (k : Kc K c) (W : WX) (a : Addr) (ds : List Dat) (o : Out) (h : R_Maybe c X ds o) : SemS K W (T_Maybe___init__ K (spO K (R_need_inner c X)) W) (.mt (.me a (.ins c.M [])) :: slots 1 ds) (PI a o) := by
  obtain ⟨l, rfl, hl, rfl⟩ := h
  apply ss_seq
  have hR : R_need_inner c X [.lst (l.map (iins c))] (if innerOk l then .val .non else .exc X []) := ⟨l, rfl, hl, rfl⟩
  cases hn : innerOk l with
  | true =>
    rw [hn] at hR
    refine ss_drop (s_callO (sa_cons (s_var rfl) sa_nil) hR) ?_
    exact ss_fld (os := []) rfl (sm_dat (s_cb (sa_cons (s_var rfl) sa_nil) (cs_tuple rfl))) k.M.cl k.nM (by decide) rfl
  | false =>
    rw [hn] at hR
    exact sx_drop (sx_call (sa_cons (s_var rfl) sa_nil) hR) ⟨rfl, rfl⟩
def betOk : Option (List Nat) → Bool
  | none => true
  | some t => isKind t && isFixed (cutL t (some 1) none)
def betLen : Option (List Nat) → Prop
  | none => True
  | some t => t.length ≤ 1000
def R_Again (c : Cs) (X : Addr) (ds : List Dat) (o : Out) : Prop := ∃ (l : List Itm) (b : Option (List Nat)), ds = [.lst (l.map (iins c)), betD b] ∧ l.length ≤ 1000 ∧ betLen b ∧ o = if innerOk l && betOk b then .mt (.ins c.A [("things", .dat (.tup (l.map (iins c)))), ("between", .dat (betD b))]) else .exc X []
theorem h_Again___init__ {K : PySem.W.Frag} {c : Cs} {X : Addr} (k : Kc K c) (W : WX) (a : Addr) (ds : List Dat) (o : Out) (h : R_Again c X ds o) : SemS K W (T_Again___init__ K (spO K (R_need_inner c X)) (spD K R_is_kind) (spD K R_is_fixed) X W) (.mt (.me a (.ins c.A [])) :: slots 2 ds) (PI a o) := by
  obtain ⟨l, b, rfl, hl, hbl, rfl⟩ := h
  have hS : sizeLine = 16777216 := rfl
  apply ss_seq
  have hR : R_need_inner c X [.lst (l.map (iins c))] (if innerOk l then .val .non else .exc X []) := ⟨l, rfl, hl, rfl⟩
  cases hn : innerOk l with
  | false =>
    rw [hn] at hR
    exact sx_drop (sx_call (sa_cons (s_var rfl) sa_nil) hR) ⟨rfl, rfl⟩
  | true =>
    rw [hn] at hR
    refine ss_drop (s_callO (sa_cons (s_var rfl) sa_nil) hR) ?_
    apply ss_seq
    have fin : SemS K W (tSeq (sFld K (tVar 0) (tCB (uTuple K) (tCons (tVar 1) tNil)) "things") (sFld K (tVar 0) (tVar 2) "between")) [.mt (.me a (.ins c.A [])), .dat (.lst (l.map (iins c))), .dat (betD b)]
        (PI a (.mt (.ins c.A [("things", .dat (.tup (l.map (iins c)))), ("between", .dat (betD b))]))) := by
      apply ss_seq
      refine ss_fld (os := []) rfl (sm_dat (s_cb (sa_cons (s_var rfl) sa_nil) (cs_tuple rfl))) k.A.cl k.nA (by decide) ?_
      exact ss_fld (os := [("things", .dat (.tup (l.map (iins c))))]) rfl (sm_dat (s_var rfl)) k.A.cl k.bA (by show 1 < 1000; decide) rfl
    cases b with
    | none =>
      refine ss_if (k := false) (st_is (st_and (k := false) (l := false) (st_test (s_op (a := .non) (b := .non) (s_var rfl) s_non os_isnotN)) (fun z => by cases z)) rfl) (fun z => by cases z) (fun _ => ?_)
      apply ss_next
      exact fin
    | some t =>
      have ht : t.length ≤ 1000 := hbl
      have hc := cutL_len t (some 1) none
      refine ss_if (k := true && (!isKind t || !isFixed (cutL t (some 1) none))) (st_and (k := true) (st_test (s_op (a := .txt t) (b := .non) (s_var rfl) s_non os_isnotN)) (fun _ => st_or (st_not (st_bl (s_call (sa_cons (s_var rfl) sa_nil) (r_is_kindO (by omega))))) (fun _ => st_not (st_bl (s_call (sa_cons (s_sl (a := .txt t) (lo := some 1) (hi := none) (s_var rfl) (so_some s_int) so_none (ss_txt (by omega))) sa_nil) (r_is_fixedT (by omega))))))) (fun hb => ?_) (fun hb => ?_)
      · have hb : betOk (some t) = false := by
          show (isKind t && isFixed (cutL t (some 1) none)) = false
          cases h1 : isKind t with
          | false => rfl
          | true =>
            cases h2 : isFixed (cutL t (some 1) none) with
            | false => rfl
            | true => rw [h1, h2] at hb; cases hb
        rw [hb]
        exact sr_own ⟨rfl, rfl⟩
      · have hb : betOk (some t) = true := by
          show (isKind t && isFixed (cutL t (some 1) none)) = true
          cases h1 : isKind t with
          | false => rw [h1] at hb; cases hb
          | true =>
            cases h2 : isFixed (cutL t (some 1) none) with
            | false => rw [h1, h2] at hb; cases hb
            | true => rfl
        rw [hb]
        apply ss_next
        exact fin
/-! ### what they tell -/
abbrev msT0 (K : PySem.W.Frag) (c : Cs) : List (Addr × Sp) := [(c.P, spO K (R_Part_told c)), (c.W, spO K (R_Word_told c))]
theorem s_ptold {K : PySem.W.Frag} {c : Cs} {ρ : List Sl} {te : TE} {E : L2.St → XK} {p : PIt} {ms : List (Addr × Sp)} (hm : ∀ e ∈ msT0 K c, e ∈ ms) (h : Sem K te ρ (pins c p)) : Sem K (tMu ms "told" E te tNil) ρ (ptold p) := by
  cases p with
  | part n => exact s_mu h sa_nil (hm _ List.mem_cons_self) rfl ⟨n, rfl, rfl⟩
  | word n => exact s_mu h sa_nil (hm _ (List.mem_cons_of_mem _ List.mem_cons_self)) rfl ⟨n, rfl, rfl⟩
def R_Maybe_told (c : Cs) (ds : List Dat) (o : Out) : Prop := ∃ l : List PIt, ds = [iins c (.maybe l)] ∧ l.length ≤ 1000 ∧ o = .val (itold (.maybe l))
theorem h_Maybe_told {K : PySem.W.Frag} {c : Cs} (k : Kc K c) (W : WX) (ds : List Dat) (o : Out) (h : R_Maybe_told c ds o) : SemS K W (T_Maybe_told K (msT0 K c) W) (slots 2 ds) (PO o) := by
  obtain ⟨l, rfl, hl, rfl⟩ := h
  have hS : sizeLine = 16777216 := rfl
  refine ss_ret (d := itold (.maybe l)) (s_tup (sa_cons (a := .txt tMaybe) s_str (sa_cons (a := .tup (l.map ptold)) (s_cb (sa_cons (s_ofN (sn_lcM (xs := l) (enc := pins c) (g := ptold) (si_u (s_fldI (s_var rfl) k.M.cl k.nM rfl) rfl) (by omega) fun x _ => s_ptold (fun _ h => h) (s_var rfl))) sa_nil) (cs_tuple rfl)) sa_nil)) (by show 2 ≤ sizeLine; decide)) rfl
def R_Again_told (c : Cs) (ds : List Dat) (o : Out) : Prop := ∃ (l : List PIt) (b : Option (List Nat)), ds = [iins c (.again l b)] ∧ l.length ≤ 1000 ∧ o = .val (itold (.again l b))
theorem h_Again_told {K : PySem.W.Frag} {c : Cs} (k : Kc K c) (W : WX) (ds : List Dat) (o : Out) (h : R_Again_told c ds o) : SemS K W (T_Again_told K (msT0 K c) W) (slots 2 ds) (PO o) := by
  obtain ⟨l, b, rfl, hl, rfl⟩ := h
  have hS : sizeLine = 16777216 := rfl
  refine ss_ret (d := itold (.again l b)) (s_tup (sa_cons (a := .txt tAgain) s_str (sa_cons (a := .tup (l.map ptold)) (s_cb (sa_cons (s_ofN (sn_lcM (xs := l) (enc := pins c) (g := ptold) (si_u (s_fldI (s_var rfl) k.A.cl k.nA rfl) rfl) (by omega) fun x _ => s_ptold (fun _ h => h) (s_var rfl))) sa_nil) (cs_tuple rfl)) (sa_cons (s_fldI (s_var rfl) k.A.cl k.bA rfl) sa_nil))) (by show 3 ≤ sizeLine; decide)) rfl
/-! ### their texts -/
theorem wtext_len (t : List Nat) : (wtext t).length ≤ t.length + 2 := by
  have hc := cutL_len t (some 1) none
  unfold wtext
  split
  · omega
  · rw [List.length_append, List.length_cons]
    simp only [List.length_cons, List.length_nil]
    omega
def textP : PIt → List Nat
  | .part n => n
  | .word k => wtext k
def lenP : PIt → Nat
  | .part n => n.length
  | .word k => k.length
theorem textP_len (p : PIt) : (textP p).length ≤ lenP p + 2 := by
  cases p with
  | part n => show n.length ≤ n.length + 2; omega
  | word k => exact wtext_len k
abbrev msX0 (K : PySem.W.Frag) (c : Cs) : List (Addr × Sp) := [(c.P, spO K (R_Part_text c)), (c.W, spO K (R_Word_text c))]
theorem s_ptext {K : PySem.W.Frag} {c : Cs} {ρ : List Sl} {te : TE} {E : L2.St → XK} {p : PIt} {ms : List (Addr × Sp)} (hm : ∀ e ∈ msX0 K c, e ∈ ms) (hl : lenP p ≤ 1000) (h : Sem K te ρ (pins c p)) : Sem K (tMu ms "text" E te tNil) ρ (.txt (textP p)) := by
  cases p with
  | part n => exact s_mu h sa_nil (hm _ List.mem_cons_self) rfl ⟨n, rfl, rfl⟩
  | word n =>
    have hl : n.length ≤ 1000 := hl
    exact s_mu h sa_nil (hm _ (List.mem_cons_of_mem _ List.mem_cons_self)) rfl ⟨n, rfl, by omega, rfl⟩
def sp1 : List Nat := (Str.ofString " ").cps.toList
theorem sp1_eq : sp1 = [32] := by decide +kernel
def inText (l : List PIt) : List Nat := joinL [32] (l.map textP)
structure Lok (l : List PIt) : Prop where
  n : l.length ≤ 100
  p : ∀ p ∈ l, lenP p ≤ 1000
theorem joinL_sum (s : List Nat) : ∀ ts : List (List Nat), (joinL s ts).length ≤ (ts.map (·.length)).sum + ts.length * s.length
  | [] => Nat.zero_le _
  | [x] => by
    show x.length ≤ _
    simp
  | x :: y :: r => by
    have ih := joinL_sum s (y :: r)
    show (x ++ s ++ joinL s (y :: r)).length ≤ _
    rw [List.length_append, List.length_append, List.map_cons, List.sum_cons, List.length_cons, Nat.succ_mul]
    omega
theorem inText_sum {l : List PIt} (h : Lok l) : ((l.map textP).map (·.length)).sum ≤ l.length * 1002 := sum_len_le textP 1002 l fun p hp => by have := h.p p hp; have := textP_len p; omega
theorem inText_len {l : List PIt} (h : Lok l) : (inText l).length ≤ 200000 := by
  have h1 := inText_sum h
  have h2 := joinL_sum [32] (l.map textP)
  have h3 := h.n
  rw [List.length_map] at h2
  unfold inText
  simp only [List.length_cons, List.length_nil] at h2
  omega
def R_all_texts (c : Cs) (ds : List Dat) (d : Dat) : Prop := ∃ l, ds = [.tup (l.map (pins c))] ∧ Lok l ∧ d = .txt (inText l)
theorem h_all_texts {K : PySem.W.Frag} {W : WX} {c : Cs} (ds : List Dat) (d : Dat) (h : R_all_texts c ds d) : SemS K W (T_all_texts K (msX0 K c)) (slots 2 ds) (PF d) := by
  obtain ⟨l, rfl, hl, rfl⟩ := h
  have hS : sizeLine = 16777216 := rfl
  have h3 := hl.n
  have h1 := inText_sum hl
  refine ss_ret (d := .txt (inText l)) (s_is (d := .txt (joinL sp1 (l.map textP))) (s_m1 s_str (s_ofN (sn_lcM (xs := l) (enc := pins c) (g := fun p => .txt (textP p)) (si_u (s_var rfl) rfl) (by omega) fun x hx => s_ptext (fun _ h => h) (hl.p x hx) (s_var rfl))) (ms_joinM ?_)) (by rw [sp1_eq]; rfl)) rfl
  show _ + _ * sp1.length ≤ _
  rw [sp1_eq]
  show _ + _ * 1 ≤ _
  omega
def oM : List Nat := (Str.ofString "\x5b ").cps.toList
def cM : List Nat := (Str.ofString " ]").cps.toList
def oA : List Nat := (Str.ofString "{ ").cps.toList
def cA : List Nat := (Str.ofString " }").cps.toList
def slA : List Nat := (Str.ofString " / ").cps.toList
theorem br_len : oM.length = 2 ∧ cM.length = 2 ∧ oA.length = 2 ∧ cA.length = 2 ∧ slA.length = 3 := by decide +kernel
def endA : Option (List Nat) → List Nat
  | none => cA
  | some t => slA ++ (39 :: cutL t (some 1) none ++ [39]) ++ cA
def itext : Itm → List Nat
  | .pl p => textP p
  | .maybe l => oM ++ inText l ++ cM
  | .again l b => oA ++ inText l ++ endA b
def R_Maybe_text (c : Cs) (ds : List Dat) (o : Out) : Prop := ∃ l, ds = [iins c (.maybe l)] ∧ Lok l ∧ o = .val (.txt (itext (.maybe l)))
theorem h_Maybe_text {K : PySem.W.Frag} {c : Cs} (k : Kc K c) (W : WX) (ds : List Dat) (o : Out) (h : R_Maybe_text c ds o) : SemS K W (T_Maybe_text K (spD K (R_all_texts c)) W) (slots 1 ds) (PO o) := by
  obtain ⟨l, rfl, hl, rfl⟩ := h
  have hS : sizeLine = 16777216 := rfl
  have h1 := inText_len hl
  obtain ⟨b1, b2, _⟩ := br_len
  exact ss_ret (d := .txt (oM ++ inText l ++ cM)) (s_op (a := .txt (oM ++ inText l)) (b := .txt cM) (s_op (a := .txt oM) (b := .txt (inText l)) s_str (s_call (sa_cons (s_fldI (s_var rfl) k.M.cl k.nM rfl) sa_nil) ⟨l, rfl, hl, rfl⟩) (os_addT (by omega))) s_str (os_addT (by rw [List.length_append]; omega))) rfl
theorem open_not : ∀ t ∈ open3, isFixed (cutL t (some 1) none) = false := by decide +kernel
theorem bet_open {t : List Nat} (h : betOk (some t) = true) : decide (t ∈ open3) = false := by
  have h : (isKind t && isFixed (cutL t (some 1) none)) = true := h
  rw [Bool.and_eq_true] at h
  exact decide_eq_false fun z => by rw [open_not t z] at h; cases h.2
def R_Again_text (c : Cs) (ds : List Dat) (o : Out) : Prop := ∃ l b, ds = [iins c (.again l b)] ∧ Lok l ∧ betOk b = true ∧ betLen b ∧ o = .val (.txt (itext (.again l b)))
theorem h_Again_text {K : PySem.W.Frag} {c : Cs} (k : Kc K c) (W : WX) (ds : List Dat) (o : Out) (h : R_Again_text c ds o) : SemS K W (T_Again_text K (spD K R_quoted) (spD K R_fixed_of) (spD K (R_all_texts c)) W) (slots 2 ds) (PO o) := by
  obtain ⟨l, b, rfl, hl, hb, hbl, rfl⟩ := h
  have hS : sizeLine = 16777216 := rfl
  have h1 := inText_len hl
  obtain ⟨b1, b2, b3, b4, b5⟩ := br_len
  have hel : (endA b).length ≤ 1100 := by
    cases b with
    | none => show cA.length ≤ 1100; omega
    | some t =>
      have ht : t.length ≤ 1000 := hbl
      have hc := cutL_len t (some 1) none
      show (slA ++ (39 :: cutL t (some 1) none ++ [39]) ++ cA).length ≤ 1100
      simp only [List.length_append, List.length_cons, List.length_nil]
      omega
  apply ss_seq
  refine ss_asg (d := .txt (endA b)) ?_ ?_
  · cases b with
    | none =>
      refine s_is (s_if (k := true) (a := .txt cA) (b := .non) (st_test (s_op (a := .non) (b := .non) (s_fldI (s_var rfl) k.A.cl k.bA rfl) s_non os_isN)) (fun _ => s_str) (fun z => by cases z)) rfl
    | some t =>
      have ht : t.length ≤ 1000 := hbl
      have hc := cutL_len t (some 1) none
      refine s_is (s_if (k := false) (a := .non) (b := .txt (slA ++ (39 :: cutL t (some 1) none ++ [39]) ++ cA)) (st_test (s_op (a := .txt t) (b := .non) (s_fldI (s_var rfl) k.A.cl k.bA rfl) s_non os_isN)) (fun z => by cases z) (fun _ => ?_)) rfl
      refine s_op (a := .txt (slA ++ (39 :: cutL t (some 1) none ++ [39]))) (b := .txt cA) (s_op (a := .txt slA) (b := .txt (39 :: cutL t (some 1) none ++ [39])) s_str (s_call (sa_cons (a := .txt (cutL t (some 1) none)) (s_call (sa_cons (a := .txt t) (s_fldI (s_var rfl) k.A.cl k.bA rfl) sa_nil) ⟨t, rfl, by omega, ?_⟩) sa_nil) (r_quoted (by omega))) (os_addT ?_)) s_str (os_addT ?_)
      · unfold fixedOf
        rw [bet_open hb]
        rfl
      · simp only [List.length_append, List.length_cons, List.length_nil]
        omega
      · simp only [List.length_append, List.length_cons, List.length_nil]
        omega
  exact ss_ret (d := .txt (oA ++ inText l ++ endA b)) (s_op (a := .txt (oA ++ inText l)) (b := .txt (endA b)) (s_op (a := .txt oA) (b := .txt (inText l)) s_str (s_call (sa_cons (s_fldI (s_var rfl) k.A.cl k.nA rfl) sa_nil) ⟨l, rfl, hl, rfl⟩) (os_addT (by omega))) (s_var rfl) (os_addT (by rw [List.length_append]; omega))) rfl

/-! ### items that are drawn -/
def parts8 : List (List Nat) := [(Str.ofString "a").cps.toList, (Str.ofString "b").cps.toList, (Str.ofString "c").cps.toList, (Str.ofString "expr").cps.toList, (Str.ofString "term").cps.toList, (Str.ofString "list").cps.toList, (Str.ofString "abcdefgh").cps.toList, (Str.ofString "stmt").cps.toList]
def partBy (c : Int) : List Nat := parts8.getD (c % 8).toNat []
def R__law_part_by (ds : List Dat) (d : Dat) : Prop := ∃ c, ds = [.int c] ∧ d = .txt (partBy c)
theorem h__law_part_by {K : PySem.W.Frag} {W : WX} (ds : List Dat) (d : Dat) (h : R__law_part_by ds d) : SemS K W (T__law_part_by K) (slots 1 ds) (PF d) := by
  obtain ⟨c, rfl, rfl⟩ := h
  have hx : atI (parts8.map Dat.txt) (c % 8) = some (.txt (partBy c)) := atI_mapD _ [] (by omega) (by show _ < (8 : Int); omega)
  refine ss_ret (s_op (a := .lst (parts8.map .txt)) (b := .int (c % 8)) ?_ ?_ (os_ixL hx)) rfl
  · walk_at "sem"
  · walk_at "sem"
theorem getD_inL {xs : List (List Nat)} {i : Nat} (h : i < xs.length) : xs.getD i [] ∈ xs := by
  rw [List.getD_eq_getElem?_getD, List.getElem?_eq_getElem h]
  exact List.getElem_mem h
theorem getD_in {xs : List Nat} {i : Nat} (h : i < xs.length) : xs.getD i 0 ∈ xs := by
  rw [List.getD_eq_getElem?_getD, List.getElem?_eq_getElem h]
  exact List.getElem_mem h
theorem joinL_emp {α : Type} (f : α → List Nat) : ∀ xs : List α, joinL emp (xs.map f) = (xs.map f).flatten
  | [] => rfl
  | [x] => by show f x = [f x].flatten; simp
  | x :: y :: r => by
    have ih := joinL_emp f (y :: r)
    show f x ++ emp ++ joinL emp ((y :: r).map f) = _
    rw [ih, emp_nil, List.append_nil, List.map_cons, List.map_cons, List.flatten_cons]
    rfl
theorem drawn_fixed (s : List Nat) (hl : s.length = 26) (m : Int) (n : Nat) (hn : 0 < n) (hm : (n : Int) ≤ m) (ix : Nat → Int) : isOf (joinL emp ((List.range n).map fun k : Nat => [s.getD (ix k % 26).toNat 0])) s m = true := by
  have e := joinL_emp (fun k : Nat => [s.getD (ix k % 26).toNat 0]) (List.range n)
  have len : (joinL emp ((List.range n).map fun k : Nat => [s.getD (ix k % 26).toNat 0])).length = n := by
    rw [e, List.length_flatten, List.map_map]
    have : ((fun x : List Nat => x.length) ∘ fun k : Nat => [s.getD (ix k % 26).toNat 0]) = fun _ => 1 := by funext k; rfl
    rw [this, List.map_const', List.sum_replicate_nat, List.length_range, Nat.mul_one]
  unfold isOf
  rw [len, decide_eq_true (by omega : (1 : Int) ≤ (n : Int)), decide_eq_true hm, Bool.true_and, Bool.true_and, List.all_eq_true]
  intro c hc
  rw [e] at hc
  obtain ⟨l, hl2, hcl⟩ := List.mem_flatten.mp hc
  obtain ⟨k, _, rfl⟩ := List.mem_map.mp hl2
  have : c = s.getD (ix k % 26).toNat 0 := by simpa using hcl
  rw [this]
  exact decide_eq_true (getD_in (by omega))
theorem usual_fixed : ∀ t ∈ usual, isFixed t = true := by decide +kernel
theorem fixedBy_fixed (c : Int) : isFixed (fixedBy c) = true := by
  unfold fixedBy
  split
  · exact usual_fixed _ (getD_inL (by rw [usual_len]; omega))
  · split
    · unfold isFixed
      rw [drawn_fixed letters letters_len 8 _ (by omega) (by omega) _]
      rfl
    · unfold isFixed
      rw [drawn_fixed signs signs_len 3 _ (by omega) (by omega) _, Bool.or_true]
theorem cut_q1 (w : List Nat) : cutL (39 :: w) none (some 1) = [39] := by
  unfold cutL
  rw [HT.sIx_none, show (1 : Int) = ((1 : Nat) : Int) from rfl, HT.sIx_nat, List.length_cons, Nat.min_eq_left (by omega)]
  rfl
theorem cut_q2 (w : List Nat) : cutL (39 :: w) (some 1) none = w := by
  unfold cutL
  rw [HT.sIx_none, show (1 : Int) = ((1 : Nat) : Int) from rfl, HT.sIx_nat, List.length_cons, Nat.min_eq_left (by omega)]
  show (w.take (w.length + 1 - 1)) = w
  rw [Nat.add_sub_cancel, List.take_length]
theorem kind_fixed (c : Int) : isKind (39 :: fixedBy c) = true := by
  unfold isKind
  rw [cut_q1, cut_q2, fixedBy_fixed, quo1]
  simp
theorem open_kind : ∀ t ∈ open3, isKind t = true ∧ t.length ≤ 9 := by decide +kernel
theorem parts_name : ∀ t ∈ parts8, isName t = true ∧ t.length ≤ 8 := by decide +kernel
theorem partBy_name (c : Int) : isName (partBy c) = true ∧ (partBy c).length ≤ 8 := parts_name _ (getD_inL (by show _ < 8; omega))
/-- an item that can be made -/
def goodP : PIt → Prop
  | .part n => isName n = true ∧ n.length ≤ 9
  | .word k => isKind k = true ∧ k.length ≤ 9
def plainBy (c : Int) : PIt := if decide (c % 5 < 2) then .part (partBy (c / 5)) else if decide (c % 5 = 2) then .word (open3.getD (c / 5 % 3).toNat []) else .word (39 :: fixedBy (c / 5))
theorem plainBy_good (c : Int) : goodP (plainBy c) := by
  unfold plainBy
  split
  · have := partBy_name (c / 5)
    exact ⟨this.1, by omega⟩
  · split
    · exact open_kind _ (getD_inL (by show _ < 3; omega))
    · have := fixedBy_len (c / 5)
      exact ⟨kind_fixed _, by rw [List.length_cons]; omega⟩
def R__law_plain_item (ds : List Dat) (d : Dat) : Prop := ∃ c, ds = [.int c] ∧ 0 ≤ c ∧ c < 2147483648 ∧ d = ptold (plainBy c)
theorem r__law_plain_item {c : Int} (h0 : 0 ≤ c) (h1 : c < 2147483648) : R__law_plain_item [.int c] (ptold (plainBy c)) := ⟨c, rfl, h0, h1, rfl⟩
theorem h__law_plain_item {K : PySem.W.Frag} {W : WX} (ds : List Dat) (d : Dat) (h : R__law_plain_item ds d) : SemS K W (T__law_plain_item K (spD K R__law_part_by) (spD K R__law_fixed_by)) (slots 1 ds) (PF d) := by
  obtain ⟨c, rfl, h0, h1, rfl⟩ := h
  have hS : sizeLine = 16777216 := rfl
  have hq : quo.length = 1 := by rw [quo1]; rfl
  have hfl := fixedBy_len (c / 5)
  unfold plainBy
  apply ss_seq
  apply ss_if
  · walk_at "test"
  · intro hb
    rw [if_pos hb]
    refine ss_ret (d := ptold (.part (partBy (c / 5)))) (s_tup (sa_cons (a := .txt tPart) s_str (sa_cons (s_call (sa_cons (a := .int (c / 5)) ?_ sa_nil) ⟨_, rfl, rfl⟩) sa_nil)) (by show 2 ≤ sizeLine; decide)) rfl
    walk_at "sem"
  · intro hb
    rw [if_neg (by rw [hb]; simp)]
    apply ss_next
    apply ss_seq
    apply ss_if
    · walk_at "test"
    · intro hb2
      rw [if_pos hb2]
      have hx : atI (open3.map Dat.txt) (c / 5 % 3) = some (.txt (open3.getD (c / 5 % 3).toNat [])) := atI_mapD _ [] (by omega) (by show _ < (3 : Int); omega)
      refine ss_ret (d := ptold (.word (open3.getD (c / 5 % 3).toNat []))) (s_tup (sa_cons (a := .txt tWord) s_str (sa_cons (s_op (a := .lst (open3.map .txt)) (b := .int (c / 5 % 3)) ?_ ?_ (os_ixL hx)) sa_nil)) (by show 2 ≤ sizeLine; decide)) rfl
      · walk_at "sem"
      · walk_at "sem"
    · intro hb2
      rw [if_neg (by rw [hb2]; simp)]
      apply ss_next
      refine ss_ret (d := ptold (.word (39 :: fixedBy (c / 5)))) (s_tup (sa_cons (a := .txt tWord) s_str (sa_cons (s_is (d := .txt (quo ++ fixedBy (c / 5))) (s_op (a := .txt quo) (b := .txt (fixedBy (c / 5))) s_str (s_call (sa_cons (a := .int (c / 5)) ?_ sa_nil) (r__law_fixed_by (by omega) (by omega))) (os_addT (by omega))) (by rw [quo1]; rfl)) sa_nil)) (by show 2 ≤ sizeLine; decide)) rfl
      walk_at "sem"
def innerBy (ns : List Int) (k : Int) : List PIt := (List.range (1 + cellF ns k / 5 % 3).toNat).map fun j : Nat => plainBy (cellF ns (k + 3000 + 1000 * (j : Int)))
def betBy (ns : List Int) (k : Int) : Option (List Nat) := if decide (cellF ns k / 5000 % 2 = 0) then none else some (39 :: fixedBy (cellF ns k / 15))
def itemBy (ns : List Int) (k : Int) : Itm := if decide (cellF ns k % 5 < 3) then .pl (plainBy (cellF ns k / 5)) else if decide (cellF ns k % 5 = 3) then .maybe (innerBy ns k) else .again (innerBy ns k) (betBy ns k)
def R__law_item_by (ds : List Dat) (d : Dat) : Prop := ∃ ns k, ds = [.scr ns, .int k] ∧ ns.length ≤ 63 ∧ 0 ≤ k ∧ k ≤ 100000 ∧ d = itold (itemBy ns k)
local macro_rules | `(tactic| walk_at "fn") => `(tactic| first
  | (apply r__law_cell; (· walk_at "side"); (· walk_at "side"); (· walk_at "side")))
theorem h__law_item_by {K : PySem.W.Frag} {W : WX} (ds : List Dat) (d : Dat) (h : R__law_item_by ds d) : SemS K W (T__law_item_by K (spD K R__law_cell) (spD K R__law_plain_item) (spD K R__law_fixed_by)) (slots 5 ds) (PF d) := by
  obtain ⟨ns, k, rfl, hn, h0, h1, rfl⟩ := h
  have hS : sizeLine = 16777216 := rfl
  have hq : quo.length = 1 := by rw [quo1]; rfl
  have b1 := cellF_lo ns k
  have b2 := cellF_hi ns k
  have hfl := fixedBy_len (cellF ns k / 15)
  unfold itemBy
  apply ss_seq
  refine ss_asg (d := .int (cellF ns k)) (by walk_at "sem") ?_
  apply ss_seq
  apply ss_if
  · walk_at "test"
  · intro hb
    rw [if_pos hb]
    refine ss_ret (d := itold (.pl (plainBy (cellF ns k / 5)))) (s_call (sa_cons (a := .int (cellF ns k / 5)) ?_ sa_nil) (r__law_plain_item (by omega) (by omega))) rfl
    walk_at "sem"
  · intro hb
    rw [if_neg (by rw [hb]; simp)]
    apply ss_next
    apply ss_seq
    refine ss_asg (d := .tup ((innerBy ns k).map ptold)) (s_is (d := .tup ((List.range (1 + cellF ns k / 5 % 3).toNat).map fun j : Nat => ptold (plainBy (cellF ns (k + 3000 + 1000 * (j : Int)))))) (s_cb (sa_cons (s_ofN (sn_lcM (enc := fun j : Nat => .int (j : Int)) ?_ ?_ fun j hj => ?_)) sa_nil) (cs_tuple rfl)) ?_) ?_
    · walk_at "iter"
    · rw [List.length_range]; omega
    · have hj2 := List.mem_range.mp hj
      have b3 := cellF_lo ns (k + 3000 + 1000 * (j : Int))
      have b4 := cellF_hi ns (k + 3000 + 1000 * (j : Int))
      refine s_call (sa_cons (a := .int (cellF ns (k + 3000 + 1000 * (j : Int)))) ?_ sa_nil) (r__law_plain_item b3 (by omega))
      refine s_call (sa_cons (a := .scr ns) (s_var rfl) (sa_cons (a := .int (k + 3000 + 1000 * (j : Int))) ?_ sa_nil)) (r__law_cell hn (by omega) (by omega))
      refine s_op (a := .int (k + 3000)) (b := .int (1000 * (j : Int))) (s_op (a := .int k) (b := .int 3000) (s_var rfl) s_int os_addI) (s_op (a := .int 1000) (b := .int (j : Int)) s_int (s_var rfl) (os_mul (by walk_at "mul"))) os_addI
    · unfold innerBy
      rw [List.map_map]
      rfl
    apply ss_seq
    apply ss_if
    · walk_at "test"
    · intro hb2
      rw [if_pos hb2]
      exact ss_ret (d := itold (.maybe (innerBy ns k))) (s_tup (sa_cons (a := .txt tMaybe) s_str (sa_cons (s_var rfl) sa_nil)) (by show 2 ≤ sizeLine; decide)) rfl
    · intro hb2
      rw [if_neg (by rw [hb2]; simp)]
      apply ss_next
      have hx : atI [Dat.non, Dat.txt (39 :: fixedBy (cellF ns k / 15))] (cellF ns k / 5000 % 2) = some (betD (betBy ns k)) := by
        unfold betBy
        by_cases hz : cellF ns k / 5000 % 2 = 0
        · rw [decide_eq_true hz, hz]; rfl
        · have : cellF ns k / 5000 % 2 = 1 := by omega
          rw [decide_eq_false hz, this]; rfl
      refine ss_ret (d := itold (.again (innerBy ns k) (betBy ns k))) (s_tup (sa_cons (a := .txt tAgain) s_str (sa_cons (s_var rfl) (sa_cons (s_op (a := .lst [Dat.non, Dat.txt (39 :: fixedBy (cellF ns k / 15))]) (b := .int (cellF ns k / 5000 % 2)) (s_lst (sa_cons s_non (sa_cons (s_is (d := .txt (quo ++ fixedBy (cellF ns k / 15))) (s_op (a := .txt quo) (b := .txt (fixedBy (cellF ns k / 15))) s_str (s_call (sa_cons (a := .int (cellF ns k / 15)) ?_ sa_nil) (r__law_fixed_by (by omega) (by omega))) (os_addT (by omega))) (by rw [quo1]; rfl)) sa_nil)) (by show 2 ≤ sizeLine; decide)) ?_ (os_ixL hx)) sa_nil))) (by show 3 ≤ sizeLine; decide)) rfl
      · walk_at "sem"
      · walk_at "sem"
/-! ### things that are made -/
def goodI : Itm → Prop
  | .pl p => goodP p
  | .maybe l => l ≠ [] ∧ l.length ≤ 100 ∧ ∀ p ∈ l, goodP p
  | .again l b => l ≠ [] ∧ l.length ≤ 100 ∧ (∀ p ∈ l, goodP p) ∧ betOk b = true ∧ betLen b
section
variable {K : PySem.W.Frag} {c : Cs} {X : Addr} {ρ : List Sl} {te tf : TE} {E : L2.St → XK} {W : WX}
theorem s_part {n : List Nat} (h : Sem K te ρ (.txt n)) (hn : isName n = true) (hl : n.length ≤ 1000) : Sem K (tMkU c.P (spInit K c.P (R_Part c X)) [] E (tCons te tNil)) ρ (pins c (.part n)) :=
  s_ofM (o := .ins c.P [("name", .dat (.txt n))]) (sm_mk (ds := [.txt n]) (es := []) (sa_cons h sa_nil) (fun _ => .nil) ⟨n, rfl, by omega, by rw [hn]; rfl⟩)
theorem s_word {n : List Nat} (h : Sem K te ρ (.txt n)) (hn : isKind n = true) (hl : n.length ≤ 1000) : Sem K (tMkU c.W (spInit K c.W (R_Word c X)) [] E (tCons te tNil)) ρ (pins c (.word n)) :=
  s_ofM (o := .ins c.W [("kind", .dat (.txt n))]) (sm_mk (ds := [.txt n]) (es := []) (sa_cons h sa_nil) (fun _ => .nil) ⟨n, rfl, by omega, by rw [hn]; rfl⟩)
theorem pls (l : List PIt) : (l.map Itm.pl).map (iins c) = l.map (pins c) := by rw [List.map_map]; rfl
theorem pls_ok {l : List PIt} (h : l ≠ []) : innerOk (l.map Itm.pl) = true := by
  unfold innerOk
  rw [List.all_map]
  cases l with
  | nil => exact absurd rfl h
  | cons a r =>
    rw [Bool.and_eq_true]
    exact ⟨rfl, List.all_eq_true.mpr fun _ _ => rfl⟩
theorem s_maybe {l : List PIt} (h : Sem K te ρ (.lst (l.map (pins c)))) (hne : l ≠ []) (hl : l.length ≤ 100) : Sem K (tMkU c.M (spInit K c.M (R_Maybe c X)) [] E (tCons te tNil)) ρ (iins c (.maybe l)) :=
  s_ofM (o := .ins c.M [("things", .dat (.tup (l.map (pins c))))]) (sm_mk (ds := [.lst (l.map (pins c))]) (es := []) (sa_cons h sa_nil) (fun _ => .nil) ⟨l.map .pl, by rw [pls]; rfl, by rw [List.length_map]; omega, by rw [pls_ok hne, pls]; rfl⟩)
theorem s_again0 {l : List PIt} {t : List Nat} (h : Sem K te ρ (.lst (l.map (pins c)))) (hb : Sem K tf ρ (.txt t)) (hne : l ≠ []) (hl : l.length ≤ 100) (ho : betOk (some t) = true) (ht : t.length ≤ 1000) : Sem K (tMkU c.A (spInit K c.A (R_Again c X)) [] E (tCons te (tCons tf tNil))) ρ (iins c (.again l (some t))) :=
  s_ofM (o := .ins c.A [("things", .dat (.tup (l.map (pins c)))), ("between", .dat (.txt t))]) (sm_mk (ds := [.lst (l.map (pins c)), .txt t]) (es := []) (sa_cons h (sa_cons hb sa_nil)) (fun _ => .nil) ⟨l.map .pl, some t, by rw [pls]; rfl, by rw [List.length_map]; omega, ht, by rw [pls_ok hne, ho, pls]; rfl⟩)
theorem s_again1 {l : List PIt} (h : Sem K te ρ (.lst (l.map (pins c)))) (hne : l ≠ []) (hl : l.length ≤ 100) : Sem K (tMkU c.A (spInit K c.A (R_Again c X)) [.non] E (tCons te tNil)) ρ (iins c (.again l none)) :=
  s_ofM (o := .ins c.A [("things", .dat (.tup (l.map (pins c)))), ("between", .dat .non)]) (sm_mk (ds := [.lst (l.map (pins c))]) (es := [.non]) (sa_cons h sa_nil) (fun _ => .cons .non .nil) ⟨l.map .pl, none, by rw [pls]; rfl, by rw [List.length_map]; omega, trivial, by rw [pls_ok hne, pls]; rfl⟩)
theorem sx_part {n : List Nat} (h : Sem K te ρ (.txt n)) (hn : isName n = false) (hl : n.length ≤ 1000) : SemX K W (tMkU c.P (spInit K c.P (R_Part c X)) [] (WE W) (tCons te tNil)) ρ X [] :=
  sx_mk (ds := [.txt n]) (es := []) (sa_cons h sa_nil) (fun _ => .nil) ⟨n, rfl, by omega, by rw [hn]; rfl⟩
theorem sx_word {n : List Nat} (h : Sem K te ρ (.txt n)) (hn : isKind n = false) (hl : n.length ≤ 1000) : SemX K W (tMkU c.W (spInit K c.W (R_Word c X)) [] (WE W) (tCons te tNil)) ρ X [] :=
  sx_mk (ds := [.txt n]) (es := []) (sa_cons h sa_nil) (fun _ => .nil) ⟨n, rfl, by omega, by rw [hn]; rfl⟩
theorem sx_maybe {l : List Itm} (h : Sem K te ρ (.lst (l.map (iins c)))) (hn : innerOk l = false) (hl : l.length ≤ 100) : SemX K W (tMkU c.M (spInit K c.M (R_Maybe c X)) [] (WE W) (tCons te tNil)) ρ X [] :=
  sx_mk (ds := [.lst (l.map (iins c))]) (es := []) (sa_cons h sa_nil) (fun _ => .nil) ⟨l, rfl, by omega, by rw [hn]; rfl⟩
theorem sx_again1 {l : List Itm} (h : Sem K te ρ (.lst (l.map (iins c)))) (hn : innerOk l = false) (hl : l.length ≤ 100) : SemX K W (tMkU c.A (spInit K c.A (R_Again c X)) [.non] (WE W) (tCons te tNil)) ρ X [] :=
  sx_mk (ds := [.lst (l.map (iins c))]) (es := [.non]) (sa_cons h sa_nil) (fun _ => .cons .non .nil) ⟨l, none, rfl, by omega, trivial, by rw [hn]; rfl⟩
theorem sx_again0 {l : List Itm} {t : List Nat} (h : Sem K te ρ (.lst (l.map (iins c)))) (hb : Sem K tf ρ (.txt t)) (hn : betOk (some t) = false) (hl : l.length ≤ 100) (ht : t.length ≤ 1000) : SemX K W (tMkU c.A (spInit K c.A (R_Again c X)) [] (WE W) (tCons te (tCons tf tNil))) ρ X [] :=
  sx_mk (ds := [.lst (l.map (iins c)), .txt t]) (es := []) (sa_cons h (sa_cons hb sa_nil)) (fun _ => .nil) ⟨l, some t, rfl, by omega, ht, by rw [hn, Bool.and_false]; rfl⟩
end
theorem tags : tPart ≠ tWord ∧ tMaybe ≠ tPart ∧ tMaybe ≠ tWord ∧ tAgain ≠ tPart ∧ tAgain ≠ tWord ∧ tAgain ≠ tMaybe ∧ tWord ≠ tPart ∧ tMaybe ≠ tAgain := by decide +kernel
theorem at0 {α : Type} (a : α) (r : List α) : atI (a :: r) 0 = some a := atI_nat (j := 0) rfl
theorem at1 {α : Type} (a b : α) (r : List α) : atI (a :: b :: r) 1 = some b := atI_nat (j := 1) rfl
theorem at2 {α : Type} (a b c : α) (r : List α) : atI (a :: b :: c :: r) 2 = some c := atI_nat (j := 2) rfl
/-- told[0] == 'x' -/
theorem st_tag {K : PySem.W.Frag} {ρ : List Sl} {i : Nat} {t : List Nat} {r : List Dat} {x : Str} (h : ρ[i]? = some (.dat (.tup (.txt t :: r)))) : SemT K (tTest (tOp (uEq K) (tOp (rIx K) (tVar i) (tC (.int 0))) (tC (.str x)))) ρ (decide (t = x.cps.toList)) :=
  st_test (s_op (a := .txt t) (b := .txt x.cps.toList) (s_op (a := .tup (.txt t :: r)) (b := .int 0) (s_var h) s_int (os_ixU (at0 _ _))) s_str os_eqT)
theorem s_at1 {K : PySem.W.Frag} {ρ : List Sl} {i : Nat} {a b : Dat} {r : List Dat} (h : ρ[i]? = some (.dat (.tup (a :: b :: r)))) : Sem K (tOp (rIx K) (tVar i) (tC (.int 1))) ρ b := s_op (a := .tup (a :: b :: r)) (b := .int 1) (s_var h) s_int (os_ixU (at1 _ _ _))
theorem s_at2 {K : PySem.W.Frag} {ρ : List Sl} {i : Nat} {a b c : Dat} {r : List Dat} (h : ρ[i]? = some (.dat (.tup (a :: b :: c :: r)))) : Sem K (tOp (rIx K) (tVar i) (tC (.int 2))) ρ c := s_op (a := .tup (a :: b :: c :: r)) (b := .int 2) (s_var h) s_int (os_ixU (at2 _ _ _ _))
def R_made0 (c : Cs) (ds : List Dat) (o : Out) : Prop := ∃ p, goodP p ∧ ds = [ptold p] ∧ o = .val (pins c p)
def R_made (c : Cs) (ds : List Dat) (o : Out) : Prop := ∃ i, goodI i ∧ ds = [itold i] ∧ o = .val (iins c i)
abbrev T_made (K : PySem.W.Frag) (c : Cs) (X : Addr) (sp : Sp) (W : WX) : TS := T__law_made_item K sp c.P c.W c.M c.A (spInit K c.P (R_Part c X)) (spInit K c.W (R_Word c X)) (spInit K c.M (R_Maybe c X)) (spInit K c.A (R_Again c X)) (spInit K c.A (R_Again c X)) W
theorem h_made0 {K : PySem.W.Frag} {c : Cs} {X : Addr} {sp : Sp} (W : WX) (ds : List Dat) (o : Out) (h : R_made0 c ds o) : SemS K W (T_made K c X sp W) (slots 3 ds) (PO o) := by
  obtain ⟨p, hg, rfl, rfl⟩ := h
  obtain ⟨g1, g2, g3, g4, g5, g6, g7, g8⟩ := tags
  cases p with
  | part n =>
    obtain ⟨hn, hl⟩ := hg
    apply ss_seq
    refine ss_if (k := decide (tPart = tPart)) (st_tag rfl) (fun _ => ?_) (fun z => by rw [decide_eq_true rfl] at z; cases z)
    exact ss_ret (s_part (s_at1 rfl) hn (by omega)) rfl
  | word n =>
    obtain ⟨hn, hl⟩ := hg
    apply ss_seq
    refine ss_if (k := decide (tWord = tPart)) (st_tag rfl) (fun z => absurd (of_decide_eq_true z) g7) (fun _ => ?_)
    apply ss_next
    apply ss_seq
    refine ss_if (k := decide (tWord = tWord)) (st_tag rfl) (fun _ => ?_) (fun z => by rw [decide_eq_true rfl] at z; cases z)
    exact ss_ret (s_word (s_at1 rfl) hn (by omega)) rfl
theorem h_made {K : PySem.W.Frag} {c : Cs} {X : Addr} (W : WX) (ds : List Dat) (o : Out) (h : R_made c ds o) : SemS K W (T_made K c X (spO K (R_made0 c)) W) (slots 3 ds) (PO o) := by
  obtain ⟨i, hg, rfl, rfl⟩ := h
  obtain ⟨g1, g2, g3, g4, g5, g6, g7, g8⟩ := tags
  have hS : sizeLine = 16777216 := rfl
  have inner : ∀ (t : List Nat) (l : List PIt) (r : List Dat), l.length ≤ 100 → (∀ p ∈ l, goodP p) → Sem K (tLc (iU K (tOp (rIx K) (tVar 0) (tC (.int 1)))) (gName 2) tYes (tCall (spO K (R_made0 c)) [] E0 (tCons (tVar 2) tNil)) [2]) [.dat (.tup (.txt t :: .tup (l.map ptold) :: r)), .no, .no] (.lst (l.map (pins c))) := fun t l r h1 h2 =>
    s_ofN (sn_lcM (xs := l) (enc := ptold) (g := pins c) (si_u (s_at1 rfl) rfl) (by omega) fun p hp => s_callO0 (sa_cons (s_var rfl) sa_nil) ⟨p, h2 p hp, rfl, rfl⟩)
  cases i with
  | pl p => exact h_made0 W _ _ ⟨p, hg, rfl, rfl⟩
  | maybe l =>
    obtain ⟨hne, hl, hp⟩ := hg
    apply ss_seq
    refine ss_if (k := decide (tMaybe = tPart)) (st_tag rfl) (fun z => absurd (of_decide_eq_true z) g2) (fun _ => ?_)
    apply ss_next
    apply ss_seq
    refine ss_if (k := decide (tMaybe = tWord)) (st_tag rfl) (fun z => absurd (of_decide_eq_true z) g3) (fun _ => ?_)
    apply ss_next
    apply ss_seq
    refine ss_asg (inner _ l _ hl hp) ?_
    apply ss_seq
    refine ss_if (k := decide (tMaybe = tMaybe)) (st_tag rfl) (fun _ => ?_) (fun z => by rw [decide_eq_true rfl] at z; cases z)
    exact ss_ret (s_maybe (s_var rfl) hne hl) rfl
  | again l b =>
    obtain ⟨hne, hl, hp, hb, hbl⟩ := hg
    apply ss_seq
    refine ss_if (k := decide (tAgain = tPart)) (st_tag rfl) (fun z => absurd (of_decide_eq_true z) g4) (fun _ => ?_)
    apply ss_next
    apply ss_seq
    refine ss_if (k := decide (tAgain = tWord)) (st_tag rfl) (fun z => absurd (of_decide_eq_true z) g5) (fun _ => ?_)
    apply ss_next
    apply ss_seq
    refine ss_asg (inner _ l _ hl hp) ?_
    apply ss_seq
    refine ss_if (k := decide (tAgain = tMaybe)) (st_tag rfl) (fun z => absurd (of_decide_eq_true z) g6) (fun _ => ?_)
    apply ss_next
    apply ss_seq
    cases b with
    | none =>
      refine ss_if (k := true) (st_test (s_op (a := .non) (b := .non) (s_at2 rfl) s_non os_isN)) (fun _ => ?_) (fun z => by cases z)
      exact ss_ret (s_again1 (s_var rfl) hne hl) rfl
    | some t =>
      refine ss_if (k := false) (st_test (s_op (a := .txt t) (b := .non) (s_at2 rfl) s_non os_isN)) (fun z => by cases z) (fun _ => ?_)
      apply ss_next
      exact ss_ret (s_again0 (s_var rfl) (s_at2 rfl) hne hl hb hbl) rfl
/-! ### the law's texts -/
def lw (k : List Nat) : List Nat := if !decide ([k.getD 0 0] = quo) then k else k ++ quo
def R__law_word_text (ds : List Dat) (d : Dat) : Prop := ∃ k, ds = [.txt k] ∧ k ≠ [] ∧ k.length ≤ 1000 ∧ d = .txt (lw k)
theorem r__law_word_text {k : List Nat} (h : k ≠ []) (hl : k.length ≤ 1000) : R__law_word_text [.txt k] (.txt (lw k)) := ⟨k, rfl, h, hl, rfl⟩
theorem h__law_word_text {K : PySem.W.Frag} {W : WX} (ds : List Dat) (d : Dat) (h : R__law_word_text ds d) : SemS K W (T__law_word_text K) (slots 1 ds) (PF d) := by
  obtain ⟨k, rfl, hne, hl, rfl⟩ := h
  have hS : sizeLine = 16777216 := rfl
  have hq : quo.length = 1 := by rw [quo1]; rfl
  have hx0 : atI k 0 = some (k.getD 0 0) := atI_getD 0 (by decide) (by have := List.length_pos_iff.mpr hne; omega)
  refine ss_ret (d := .txt (lw k)) (s_is (s_if (k := !decide ([k.getD 0 0] = quo)) (a := .txt k) (b := .txt (k ++ quo)) (st_test (s_op (a := .txt [k.getD 0 0]) (b := .txt quo) (s_op (a := .txt k) (b := .int 0) (s_var rfl) s_int (os_ixT hx0 (by omega))) s_str os_neT)) (fun _ => s_var rfl) (fun _ => s_op (a := .txt k) (b := .txt quo) (s_var rfl) s_str (os_addT (by omega)))) ?_) rfl
  unfold lw
  cases (!decide ([k.getD 0 0] = quo)) <;> rfl
theorem open_first : ∀ t ∈ open3, decide ([t.getD 0 0] = quo) = false ∧ t ≠ [] := by decide +kernel
theorem lw_is {k : List Nat} (h : isKind k = true) : k ≠ [] ∧ lw k = wtext k := by
  by_cases ho : k ∈ open3
  · obtain ⟨h1, h2⟩ := open_first k ho
    refine ⟨h2, ?_⟩
    unfold lw wtext
    rw [h1, decide_eq_true ho]
    rfl
  · unfold isKind at h
    rw [decide_eq_false ho, Bool.false_or, Bool.and_eq_true, decide_eq_true_eq, quo1] at h
    cases k with
    | nil => cases h.1
    | cons a w =>
      have ha : cutL (a :: w) none (some 1) = [a] := by
        unfold cutL
        rw [HT.sIx_none, show (1 : Int) = ((1 : Nat) : Int) from rfl, HT.sIx_nat, List.length_cons, Nat.min_eq_left (by omega)]
        rfl
      rw [ha] at h
      have : a = 39 := by simpa using h.1
      subst this
      refine ⟨by simp, ?_⟩
      unfold lw wtext
      rw [decide_eq_false ho, cut_q2, quo1]
      simp
def R_itx0 (ds : List Dat) (d : Dat) : Prop := ∃ p, goodP p ∧ ds = [ptold p] ∧ d = .txt (textP p)
def R_itx (ds : List Dat) (d : Dat) : Prop := ∃ i, goodI i ∧ ds = [itold i] ∧ d = .txt (itext i)
theorem h_itx0 {K : PySem.W.Frag} {W : WX} {sp : Sp} (ds : List Dat) (d : Dat) (h : R_itx0 ds d) : SemS K W (T__law_item_text K (spD K R__law_word_text) sp) (slots 3 ds) (PF d) := by
  obtain ⟨p, hg, rfl, rfl⟩ := h
  obtain ⟨g1, g2, g3, g4, g5, g6, g7, g8⟩ := tags
  cases p with
  | part n =>
    apply ss_seq
    refine ss_if (k := decide (tPart = tPart)) (st_tag rfl) (fun _ => ?_) (fun z => by rw [decide_eq_true rfl] at z; cases z)
    exact ss_ret (s_at1 rfl) rfl
  | word n =>
    obtain ⟨hn, hl⟩ := hg
    obtain ⟨e1, e2⟩ := lw_is hn
    apply ss_seq
    refine ss_if (k := decide (tWord = tPart)) (st_tag rfl) (fun z => absurd (of_decide_eq_true z) g7) (fun _ => ?_)
    apply ss_next
    apply ss_seq
    refine ss_if (k := decide (tWord = tWord)) (st_tag rfl) (fun _ => ?_) (fun z => by rw [decide_eq_true rfl] at z; cases z)
    refine ss_ret (d := .txt (wtext n)) (s_is (s_call (sa_cons (s_at1 rfl) sa_nil) (r__law_word_text e1 (by omega))) (by rw [e2])) rfl
theorem good_lenP {p : PIt} (h : goodP p) : lenP p ≤ 1000 := by
  cases p with
  | part n => have := h.2; show n.length ≤ 1000; omega
  | word n => have := h.2; show n.length ≤ 1000; omega
def tNone : List Nat := (Str.ofString "None").cps.toList
theorem tNone_ok : tNone ≠ [] ∧ tNone.length ≤ 1000 := by decide +kernel
theorem atm1 {α : Type} (a b c : α) : atI [a, b, c] (-1) = some c := rfl
theorem h_itx {K : PySem.W.Frag} {W : WX} (ds : List Dat) (d : Dat) (h : R_itx ds d) : SemS K W (T__law_item_text K (spD K R__law_word_text) (spD K R_itx0)) (slots 3 ds) (PF d) := by
  obtain ⟨i, hg, rfl, rfl⟩ := h
  obtain ⟨g1, g2, g3, g4, g5, g6, g7, g8⟩ := tags
  obtain ⟨b1, b2, b3, b4, b5⟩ := br_len
  have hS : sizeLine = 16777216 := rfl
  have inner : ∀ (t : List Nat) (l : List PIt) (r : List Dat), Lok l → (∀ p ∈ l, goodP p) → Sem K (tM1 (uJoin K) (tC (.str (Str.ofString " "))) (tLc (iU K (tOp (rIx K) (tVar 0) (tC (.int 1)))) (gName 2) tYes (tCall (spD K R_itx0) [] E0 (tCons (tVar 2) tNil)) [2])) [.dat (.tup (.txt t :: .tup (l.map ptold) :: r)), .no, .no] (.txt (inText l)) := fun t l r h1 h2 => by
    have h3 := h1.n
    have h4 := inText_sum h1
    refine s_is (d := .txt (joinL sp1 (l.map textP))) (s_m1 s_str (s_ofN (sn_lcM (xs := l) (enc := ptold) (g := fun p => .txt (textP p)) (si_u (s_at1 rfl) rfl) (by omega) fun p hp => s_call (sa_cons (s_var rfl) sa_nil) ⟨p, h2 p hp, rfl, rfl⟩)) (ms_joinM ?_)) (by rw [sp1_eq]; rfl)
    show _ + _ * sp1.length ≤ _
    rw [sp1_eq]
    show _ + _ * 1 ≤ _
    omega
  cases i with
  | pl p => exact h_itx0 _ _ ⟨p, hg, rfl, rfl⟩
  | maybe l =>
    obtain ⟨hne, hl, hp⟩ := hg
    have hk : Lok l := ⟨hl, fun p h => good_lenP (hp p h)⟩
    have hil := inText_len hk
    apply ss_seq
    refine ss_if (k := decide (tMaybe = tPart)) (st_tag rfl) (fun z => absurd (of_decide_eq_true z) g2) (fun _ => ?_)
    apply ss_next
    apply ss_seq
    refine ss_if (k := decide (tMaybe = tWord)) (st_tag rfl) (fun z => absurd (of_decide_eq_true z) g3) (fun _ => ?_)
    apply ss_next
    apply ss_seq
    refine ss_asg (inner _ l _ hk hp) ?_
    apply ss_seq
    refine ss_if (k := decide (tMaybe = tMaybe)) (st_tag rfl) (fun _ => ?_) (fun z => by rw [decide_eq_true rfl] at z; cases z)
    exact ss_ret (d := .txt (oM ++ inText l ++ cM)) (s_op (a := .txt (oM ++ inText l)) (b := .txt cM) (s_op (a := .txt oM) (b := .txt (inText l)) s_str (s_var rfl) (os_addT (by omega))) s_str (os_addT (by rw [List.length_append]; omega))) rfl
  | again l b =>
    obtain ⟨hne, hl, hp, hb, hbl⟩ := hg
    have hk : Lok l := ⟨hl, fun p h => good_lenP (hp p h)⟩
    have hil := inText_len hk
    apply ss_seq
    refine ss_if (k := decide (tAgain = tPart)) (st_tag rfl) (fun z => absurd (of_decide_eq_true z) g4) (fun _ => ?_)
    apply ss_next
    apply ss_seq
    refine ss_if (k := decide (tAgain = tWord)) (st_tag rfl) (fun z => absurd (of_decide_eq_true z) g5) (fun _ => ?_)
    apply ss_next
    apply ss_seq
    refine ss_asg (inner _ l _ hk hp) ?_
    apply ss_seq
    refine ss_if (k := decide (tAgain = tMaybe)) (st_tag rfl) (fun z => absurd (of_decide_eq_true z) g6) (fun _ => ?_)
    apply ss_next
    have neg1 : ∀ ρ, Sem K (tUn uNeg (tC (.int 1))) ρ (.int (-1)) := fun ρ => s_un s_int us_neg
    have fin : ∀ (e : List Nat) (t : TE), e.length ≤ 1100 → Sem K t [.dat (itold (.again l b)), .dat (.txt (inText l)), .no] (.txt e) →
        SemS K W (tRet (tOp (uAdd K) (tOp (uAdd K) (tOp (uAdd K) (tC (.str (Str.ofString "{ "))) (tVar 1)) t) (tC (.str (Str.ofString " }"))))) [.dat (itold (.again l b)), .dat (.txt (inText l)), .no] (PF (.txt (oA ++ inText l ++ e ++ cA))) := fun e t he ht =>
      ss_ret (d := .txt (oA ++ inText l ++ e ++ cA)) (s_op (a := .txt (oA ++ inText l ++ e)) (b := .txt cA) (s_op (a := .txt (oA ++ inText l)) (b := .txt e) (s_op (a := .txt oA) (b := .txt (inText l)) s_str (s_var rfl) (os_addT (by omega))) ht (os_addT (by rw [List.length_append]; omega))) s_str (os_addT (by rw [List.length_append, List.length_append]; omega))) rfl
    have hlw : ∀ t : List Nat, t.length ≤ 1000 → (lw t).length ≤ 1001 := fun t ht => by
      have hq : quo.length = 1 := by rw [quo1]; rfl
      unfold lw
      split
      · omega
      · rw [List.length_append]; omega
    cases b with
    | none =>
      have e : itext (.again l none) = oA ++ inText l ++ emp ++ cA := by rw [emp_nil, List.append_nil]; rfl
      rw [e]
      have hn := hlw tNone tNone_ok.2
      refine fin emp _ (by rw [emp_nil]; decide) (s_op (a := .lst [.txt emp, .txt (slA ++ lw tNone)]) (b := .int 0) (s_lst (sa_cons s_str (sa_cons (s_op (a := .txt slA) (b := .txt (lw tNone)) s_str (s_call (sa_cons (a := .txt tNone) (s_cb (sa_cons (a := .non) (s_op (a := itold (.again l none)) (b := .int (-1)) (s_var rfl) (neg1 _) (os_ixU (atm1 _ _ _))) sa_nil) cs_strN) sa_nil) (r__law_word_text tNone_ok.1 tNone_ok.2)) (os_addT (by omega))) sa_nil)) (by show 2 ≤ sizeLine; decide)) (s_is (s_cb (sa_cons (a := .bl false) (s_op (a := .non) (b := .non) (s_at2 rfl) s_non os_isnotN) sa_nil) cs_intB) rfl) (os_ixL rfl))
    | some t =>
      have ht : t.length ≤ 1000 := hbl
      have hbo : (isKind t && isFixed (cutL t (some 1) none)) = true := hb
      rw [Bool.and_eq_true] at hbo
      obtain ⟨e1, e2⟩ := lw_is hbo.1
      have hn := hlw t ht
      have e : itext (.again l (some t)) = oA ++ inText l ++ (slA ++ lw t) ++ cA := by
        show oA ++ inText l ++ (slA ++ (39 :: cutL t (some 1) none ++ [39]) ++ cA) = _
        rw [e2]
        unfold wtext
        rw [bet_open hb]
        simp only [Bool.false_eq_true, if_false, List.append_assoc]
      rw [e]
      refine fin (slA ++ lw t) _ (by rw [List.length_append]; omega) (s_op (a := .lst [.txt emp, .txt (slA ++ lw t)]) (b := .int 1) (s_lst (sa_cons s_str (sa_cons (s_op (a := .txt slA) (b := .txt (lw t)) s_str (s_call (sa_cons (a := .txt t) (s_cb (sa_cons (a := .txt t) (s_op (a := itold (.again l (some t))) (b := .int (-1)) (s_var rfl) (neg1 _) (os_ixU (atm1 _ _ _))) sa_nil) cs_strT) sa_nil) (r__law_word_text e1 ht)) (os_addT (by omega))) sa_nil)) (by show 2 ≤ sizeLine; decide)) (s_is (s_cb (sa_cons (a := .bl true) (s_op (a := .txt t) (b := .non) (s_at2 rfl) s_non os_isnotN) sa_nil) cs_intB) rfl) (os_ixL rfl))
/-! ### the law -/
structure Ki (K : PySem.W.Frag) (c : Cs) (It : Addr) : Prop where
  P : PySem.W.kitOne K (.ref c.P) (.ref It) = some true
  W : PySem.W.kitOne K (.ref c.W) (.ref It) = some true
  M : PySem.W.kitOne K (.ref c.M) (.ref It) = some true
  A : PySem.W.kitOne K (.ref c.A) (.ref It) = some true
theorem ty_any {K : PySem.W.Frag} {c : Cs} {It : Addr} (k : Kc K c) (j : Ki K c It) (i : Itm) : ∃ C, TyOf K (iins c i) (.ref C) ∧ PySem.W.kitOne K (.ref C) (.ref It) = some true := by
  cases i with
  | pl p =>
    cases p with
    | part n => exact ⟨_, ty_ins k.P, j.P⟩
    | word n => exact ⟨_, ty_ins k.W, j.W⟩
  | maybe l => exact ⟨_, ty_ins k.M, j.M⟩
  | again l b => exact ⟨_, ty_ins k.A, j.A⟩
abbrev msT1 (K : PySem.W.Frag) (c : Cs) : List (Addr × Sp) := [(c.P, spO K (R_Part_told c)), (c.W, spO K (R_Word_told c)), (c.M, spO K (R_Maybe_told c)), (c.A, spO K (R_Again_told c))]
abbrev msX1 (K : PySem.W.Frag) (c : Cs) : List (Addr × Sp) := [(c.P, spO K (R_Part_text c)), (c.W, spO K (R_Word_text c)), (c.M, spO K (R_Maybe_text c)), (c.A, spO K (R_Again_text c))]
theorem s_itold {K : PySem.W.Frag} {c : Cs} {ρ : List Sl} {te : TE} {E : L2.St → XK} {i : Itm} (hg : goodI i) (h : Sem K te ρ (iins c i)) : Sem K (tMu (msT1 K c) "told" E te tNil) ρ (itold i) := by
  cases i with
  | pl p => exact s_ptold (fun e he => by rcases List.mem_cons.mp he with z | z; · rw [z]; exact List.mem_cons_self
                                          · rcases List.mem_cons.mp z with z | z
                                            · rw [z]; exact List.mem_cons_of_mem _ List.mem_cons_self
                                            · cases z) h
  | maybe l => exact s_mu h sa_nil (List.mem_cons_of_mem _ (List.mem_cons_of_mem _ List.mem_cons_self)) rfl ⟨l, rfl, by have := hg.2.1; omega, rfl⟩
  | again l b => exact s_mu h sa_nil (List.mem_cons_of_mem _ (List.mem_cons_of_mem _ (List.mem_cons_of_mem _ List.mem_cons_self))) rfl ⟨l, b, rfl, by have := hg.2.1; omega, rfl⟩
theorem s_itext {K : PySem.W.Frag} {c : Cs} {ρ : List Sl} {te : TE} {E : L2.St → XK} {i : Itm} (hg : goodI i) (h : Sem K te ρ (iins c i)) : Sem K (tMu (msX1 K c) "text" E te tNil) ρ (.txt (itext i)) := by
  cases i with
  | pl p => exact s_ptext (fun e he => by rcases List.mem_cons.mp he with z | z; · rw [z]; exact List.mem_cons_self
                                          · rcases List.mem_cons.mp z with z | z
                                            · rw [z]; exact List.mem_cons_of_mem _ List.mem_cons_self
                                            · cases z) (good_lenP hg) h
  | maybe l => exact s_mu h sa_nil (List.mem_cons_of_mem _ (List.mem_cons_of_mem _ List.mem_cons_self)) rfl ⟨l, rfl, ⟨hg.2.1, fun p hp => good_lenP (hg.2.2 p hp)⟩, rfl⟩
  | again l b => exact s_mu h sa_nil (List.mem_cons_of_mem _ (List.mem_cons_of_mem _ (List.mem_cons_of_mem _ List.mem_cons_self))) rfl ⟨l, b, rfl, ⟨hg.2.1, fun p hp => good_lenP (hg.2.2.1 p hp)⟩, hg.2.2.2.1, hg.2.2.2.2, rfl⟩
theorem innerBy_good (ns : List Int) (k : Int) : innerBy ns k ≠ [] ∧ (innerBy ns k).length ≤ 100 ∧ ∀ p ∈ innerBy ns k, goodP p := by
  have hl : (innerBy ns k).length = (1 + cellF ns k / 5 % 3).toNat := by unfold innerBy; rw [List.length_map, List.length_range]
  refine ⟨fun z => ?_, by omega, fun p hp => ?_⟩
  · rw [z] at hl
    simp only [List.length_nil] at hl
    omega
  · unfold innerBy at hp
    obtain ⟨j, _, rfl⟩ := List.mem_map.mp hp
    exact plainBy_good _
theorem itemBy_good (ns : List Int) (k : Int) : goodI (itemBy ns k) := by
  obtain ⟨h1, h2, h3⟩ := innerBy_good ns k
  unfold itemBy
  split
  · exact plainBy_good _
  · split
    · exact ⟨h1, h2, h3⟩
    · refine ⟨h1, h2, h3, ?_, ?_⟩
      · unfold betBy
        split
        · rfl
        · show (isKind _ && isFixed (cutL (39 :: fixedBy _) (some 1) none)) = true
          rw [kind_fixed, cut_q2, fixedBy_fixed]; rfl
      · unfold betBy
        split
        · trivial
        · show (39 :: fixedBy _).length ≤ 1000
          have := fixedBy_len (cellF ns k / 15)
          rw [List.length_cons]; omega
theorem noLst_pins (c : Cs) : ∀ l : List PIt, noLsts (l.map (pins c)) = true
  | [] => rfl
  | p :: r => by
    show (noLst (pins c p) && noLsts (r.map (pins c))) = true
    rw [noLst_pins c r]
    cases p <;> rfl

/-! ### sizes -/
def sizeI : Itm → Nat
  | .pl _ => 1
  | .maybe l => 1 + l.length
  | .again l _ => 1 + l.length
def lenI : Itm → Nat
  | .pl _ => 0
  | .maybe l => l.length
  | .again l _ => l.length
def innI (c : Cs) : Itm → Dat
  | .pl _ => .tup []
  | .maybe l => .tup (l.map (pins c))
  | .again l _ => .tup (l.map (pins c))
def R_inner0 (c : Cs) (ds : List Dat) (o : Out) : Prop := ∃ p, ds = [pins c p] ∧ o = .val (.tup [])
def R_innerM (c : Cs) (ds : List Dat) (o : Out) : Prop := ∃ l, ds = [iins c (.maybe l)] ∧ o = .val (.tup (l.map (pins c)))
def R_innerA (c : Cs) (ds : List Dat) (o : Out) : Prop := ∃ l b, ds = [iins c (.again l b)] ∧ o = .val (.tup (l.map (pins c)))
theorem h_Item_inner {K : PySem.W.Frag} {c : Cs} (W : WX) (ds : List Dat) (o : Out) (h : R_inner0 c ds o) : SemS K W (T_Item_inner K W) (slots 1 ds) (PO o) := by
  obtain ⟨p, rfl, rfl⟩ := h
  exact ss_ret (s_tup sa_nil (by show 0 ≤ sizeLine; decide)) rfl
theorem h_Maybe_inner {K : PySem.W.Frag} {c : Cs} (k : Kc K c) (W : WX) (ds : List Dat) (o : Out) (h : R_innerM c ds o) : SemS K W (T_Maybe_inner K W) (slots 1 ds) (PO o) := by
  obtain ⟨l, rfl, rfl⟩ := h
  exact ss_ret (s_fldI (s_var rfl) k.M.cl k.nM rfl) rfl
theorem h_Again_inner {K : PySem.W.Frag} {c : Cs} (k : Kc K c) (W : WX) (ds : List Dat) (o : Out) (h : R_innerA c ds o) : SemS K W (T_Again_inner K W) (slots 1 ds) (PO o) := by
  obtain ⟨l, b, rfl, rfl⟩ := h
  exact ss_ret (s_fldI (s_var rfl) k.A.cl k.nA rfl) rfl
abbrev msN (K : PySem.W.Frag) (c : Cs) : List (Addr × Sp) := [(c.P, spO K (R_inner0 c)), (c.W, spO K (R_inner0 c)), (c.M, spO K (R_innerM c)), (c.A, spO K (R_innerA c))]
theorem s_inner {K : PySem.W.Frag} {c : Cs} {ρ : List Sl} {te : TE} {E : L2.St → XK} {i : Itm} (h : Sem K te ρ (iins c i)) : Sem K (tMu (msN K c) "inner" E te tNil) ρ (innI c i) := by
  cases i with
  | pl p =>
    cases p with
    | part n => exact s_mu h sa_nil List.mem_cons_self rfl ⟨.part n, rfl, rfl⟩
    | word n => exact s_mu h sa_nil (.tail _ List.mem_cons_self) rfl ⟨.word n, rfl, rfl⟩
  | maybe l => exact s_mu h sa_nil (.tail _ (.tail _ List.mem_cons_self)) rfl ⟨l, rfl, rfl⟩
  | again l b => exact s_mu h sa_nil (.tail _ (.tail _ (.tail _ List.mem_cons_self))) rfl ⟨l, b, rfl, rfl⟩
def R_size (c : Cs) (ds : List Dat) (o : Out) : Prop := ∃ i, ds = [iins c i] ∧ o = .val (.int (sizeI i : Nat))
theorem h_Item_size {K : PySem.W.Frag} {c : Cs} (W : WX) (ds : List Dat) (o : Out) (h : R_size c ds o) : SemS K W (T_Item_size K (msN K c) W) (slots 1 ds) (PO o) := by
  obtain ⟨i, rfl, rfl⟩ := h
  have hn : CallS K (uLen K) [innI c i] (.int (lenI i : Nat)) := by
    cases i with
    | pl p => exact cs_lenU
    | maybe l => have := cs_lenU (K := K) (cs := l.map (pins c)); rw [List.length_map] at this; exact this
    | again l b => have := cs_lenU (K := K) (cs := l.map (pins c)); rw [List.length_map] at this; exact this
  refine ss_ret (d := .int (sizeI i : Nat)) (s_is (d := .int (1 + (lenI i : Nat))) (s_op (a := .int 1) (b := .int (lenI i : Nat)) s_int (s_cb (sa_cons (s_inner (i := i) (s_var rfl)) sa_nil) hn) os_addI) ?_) rfl
  cases i with
  | pl p => rfl
  | maybe l => show Dat.int (1 + (l.length : Int)) = .int ((1 + l.length : Nat) : Int); rw [Int.natCast_add]; rfl
  | again l b => show Dat.int (1 + (l.length : Int)) = .int ((1 + l.length : Nat) : Int); rw [Int.natCast_add]; rfl
abbrev msS (K : PySem.W.Frag) (c : Cs) : List (Addr × Sp) := [(c.P, spO K (R_size c)), (c.W, spO K (R_size c)), (c.M, spO K (R_size c)), (c.A, spO K (R_size c))]
theorem s_size {K : PySem.W.Frag} {c : Cs} {ρ : List Sl} {te : TE} {E : L2.St → XK} {i : Itm} (h : Sem K te ρ (iins c i)) : Sem K (tMu (msS K c) "size" E te tNil) ρ (.int (sizeI i : Nat)) := by
  cases i with
  | pl p =>
    cases p with
    | part n => exact s_mu h sa_nil List.mem_cons_self rfl ⟨_, rfl, rfl⟩
    | word n => exact s_mu h sa_nil (.tail _ List.mem_cons_self) rfl ⟨_, rfl, rfl⟩
  | maybe l => exact s_mu h sa_nil (.tail _ (.tail _ List.mem_cons_self)) rfl ⟨_, rfl, rfl⟩
  | again l b => exact s_mu h sa_nil (.tail _ (.tail _ (.tail _ List.mem_cons_self))) rfl ⟨_, rfl, rfl⟩
/-! ### need -/
def R_need (X : Addr) (ds : List Dat) (o : Out) : Prop := ∃ b, ds = [.bl b] ∧ o = if b then .val .non else .exc X []
theorem h_need {K : PySem.W.Frag} {X : Addr} (W : WX) (ds : List Dat) (o : Out) (h : R_need X ds o) : SemS K W (T_need K X W) (slots 1 ds) (PO o) := by
  obtain ⟨b, rfl, rfl⟩ := h
  refine ss_if (k := !b) (st_not (st_bl (s_var rfl))) (fun z => ?_) (fun z => ?_)
  · cases b with
    | true => cases z
    | false => exact sr_own ⟨rfl, rfl⟩
  · cases b with
    | true => exact ss_next rfl
    | false => cases z
section
variable {K : PySem.W.Frag} {W : WX} {X : Addr} {ρ : List Sl} {P : Post} {te tf : TE}
theorem ss_need {b : Bool} (h : Sem K te ρ (.bl b)) (h1 : b = true → P.nx ρ) (h2 : b = false → P.ex X [] ρ) : SemS K W (tDrop (tCallSD (spO K (R_need X)) [] (WE W) (tCons te tNil))) ρ P := by
  cases b with
  | true => exact ss_drop (s_callO (sa_cons h sa_nil) ⟨true, rfl, rfl⟩) (h1 rfl)
  | false => exact sx_drop (sx_call (sa_cons h sa_nil) ⟨false, rfl, rfl⟩) (h2 rfl)
theorem ss_needName {t : List Nat} (h : Sem K te ρ (.txt t)) (hl : t.length ≤ 1000000) (h1 : isName t = true → P.nx ρ) (h2 : isName t = false → P.ex X [] ρ) : SemS K W (tDrop (tCallSD (spO K (R_need_name X)) [] (WE W) (tCons te tNil))) ρ P := by
  cases hb : isName t with
  | true => exact ss_drop (s_callO (sa_cons h sa_nil) ⟨t, rfl, hl, by rw [hb]; rfl⟩) (h1 hb)
  | false => exact sx_drop (sx_call (sa_cons h sa_nil) ⟨t, rfl, hl, by rw [hb]; rfl⟩) (h2 hb)
end
/-! ### choices -/
structure Chc where
  part : List Nat
  label : List Nat
  items : List Itm
structure Jn where
  part : List Nat
  of : List Nat
  br : List (List Nat)
  lv : List (List Nat × List (List Nat))
structure Gm where
  start : List Nat
  cs : List Chc
  js : List Jn
structure Cg where
  C : Addr
  J : Addr
  G : Addr
structure Kg (K : PySem.W.Frag) (g : Cg) : Prop where
  C : InsC K g.C
  J : InsC K g.J
  G : InsC K g.G
  Cp : NoAttr K g.C "part"
  Cl : NoAttr K g.C "label"
  Ct : NoAttr K g.C "things"
  Jp : NoAttr K g.J "part"
  Jo : NoAttr K g.J "of"
  Jb : NoAttr K g.J "brackets"
  Jl : NoAttr K g.J "levels"
  Gs : NoAttr K g.G "start"
  Gc : NoAttr K g.G "choices"
  Gj : NoAttr K g.G "joins"
def lvD (x : List Nat × List (List Nat)) : Dat := .tup [.txt x.1, .tup (x.2.map .txt)]
def chD (c : Cs) (g : Cg) (x : Chc) : Dat := .ins g.C [("part", .txt x.part), ("label", .txt x.label), ("things", .tup (x.items.map (iins c)))]
def jnD (g : Cg) (x : Jn) : Dat := .ins g.J [("part", .txt x.part), ("of", .txt x.of), ("brackets", .tup (x.br.map .txt)), ("levels", .tup (x.lv.map lvD))]
def gmD (c : Cs) (g : Cg) (x : Gm) : Dat := .ins g.G [("start", .txt x.start), ("choices", .tup (x.cs.map (chD c g))), ("joins", .tup (x.js.map (jnD g)))]
def chO (c : Cs) (g : Cg) (x : Chc) : OD := .ins g.C [("part", .dat (.txt x.part)), ("label", .dat (.txt x.label)), ("things", .dat (.tup (x.items.map (iins c))))]
def jnO (g : Cg) (x : Jn) : OD := .ins g.J [("part", .dat (.txt x.part)), ("of", .dat (.txt x.of)), ("brackets", .dat (.tup (x.br.map .txt))), ("levels", .dat (.tup (x.lv.map lvD)))]
def gmO (c : Cs) (g : Cg) (x : Gm) : OD := .ins g.G [("start", .dat (.txt x.start)), ("choices", .dat (.tup (x.cs.map (chD c g)))), ("joins", .dat (.tup (x.js.map (jnD g))))]
def sizeAll (l : List Itm) : Nat := (l.map sizeI).sum
def chOk (x : Chc) : Bool := isName x.part && isName x.label && decide (sizeAll x.items ≤ 8)
structure ChL (x : Chc) : Prop where
  p : x.part.length ≤ 1000
  l : x.label.length ≤ 1000
  n : x.items.length ≤ 1000
def R_Choice (c : Cs) (g : Cg) (X : Addr) (ds : List Dat) (o : Out) : Prop := ∃ x q, ds = [.txt x.part, .txt x.label, sq q (x.items.map (iins c))] ∧ ChL x ∧ o = if chOk x then .mt (chO c g x) else .exc X []
theorem sum_cast : ∀ l : List Itm, (l.map fun i => ((sizeI i : Nat) : Int)).sum = ((sizeAll l : Nat) : Int)
  | [] => rfl
  | i :: r => by
    have := sum_cast r
    unfold sizeAll at this ⊢
    rw [List.map_cons, List.sum_cons, List.map_cons, List.sum_cons, this, Int.natCast_add]
theorem h_Choice___init__ {K : PySem.W.Frag} {c : Cs} {g : Cg} {X It : Addr} {gM : V} (hM : ∀ G, DR K G gM (.int 8)) (k : Kc K c) (j : Ki K c It) (kg : Kg K g) (W : WX) (a : Addr) (ds : List Dat) (o : Out) (h : R_Choice c g X ds o) :
    SemS K W (T_Choice___init__ K (spO K (R_need_name X)) (spO K (R_need X)) gM It (msS K c) W) (.mt (.me a (.ins g.C [])) :: slots 4 ds) (PI a o) := by
  obtain ⟨x, q, rfl, hl, rfl⟩ := h
  have hS : sizeLine = 16777216 := rfl
  have l1 := hl.p
  have l2 := hl.l
  have l3 := hl.n
  apply ss_seq
  refine ss_needName (t := x.part) (s_var rfl) (by omega) (fun h1 => ?_) (fun h1 => by rw [show chOk x = false by unfold chOk; rw [h1]; rfl]; exact ⟨rfl, rfl⟩)
  apply ss_seq
  refine ss_needName (t := x.label) (s_var rfl) (by omega) (fun h2 => ?_) (fun h2 => by rw [show chOk x = false by unfold chOk; rw [h1, h2]; rfl]; exact ⟨rfl, rfl⟩)
  apply ss_seq
  refine ss_need (b := true) (s_is (d := .bl (x.items.all fun _ => true)) (s_cb (sa_cons (s_ofN (sn_lcM (xs := x.items) (enc := iins c) (g := fun _ => .bl true) (si_u (s_var rfl) sq_items) (by omega) fun i _ => ?_)) sa_nil) cs_allM) (by rw [List.all_eq_true.mpr fun _ _ => rfl])) (fun _ => ?_) (fun z => by cases z)
  · obtain ⟨C, t1, t2⟩ := ty_any k j i
    exact s_cb (sa_cons (a := iins c i) (s_var rfl) (sa_cons s_cls sa_nil)) (cs_isiO t1 rfl t2)
  apply ss_seq
  refine ss_need (b := decide (((sizeAll x.items : Nat) : Int) ≤ 8)) (s_op (a := .int ((sizeAll x.items : Nat) : Int)) (b := .int 8) (s_is (d := .int (x.items.map fun i => ((sizeI i : Nat) : Int)).sum) (s_cb (sa_cons (a := .lst ((x.items.map fun i => ((sizeI i : Nat) : Int)).map .int)) (s_is (s_ofN (sn_lcM (xs := x.items) (enc := iins c) (g := fun i => .int ((sizeI i : Nat) : Int)) (si_u (s_var rfl) sq_items) (by omega) fun i _ => s_size (i := i) (s_var rfl))) (by rw [List.map_map]; rfl)) sa_nil) cs_sum) (by rw [sum_cast])) (s_c hM) os_le) (fun h3 => ?_) (fun h3 => ?_)
  · have ok : chOk x = true := by
      unfold chOk
      rw [h1, h2]
      have : sizeAll x.items ≤ 8 := by have := of_decide_eq_true h3; omega
      rw [decide_eq_true this]; rfl
    rw [ok]
    apply ss_seq
    refine ss_fld (os := []) rfl (sm_dat (s_var rfl)) kg.C.cl kg.Cp (by decide) ?_
    apply ss_seq
    refine ss_fld (os := [("part", .dat (.txt x.part))]) rfl (sm_dat (s_var rfl)) kg.C.cl kg.Cl (by show 1 < 1000; decide) ?_
    exact ss_fld (os := [("part", .dat (.txt x.part)), ("label", .dat (.txt x.label))]) rfl (sm_dat (s_cb (sa_cons (s_var rfl) sa_nil) (cs_tuple sq_seq))) kg.C.cl kg.Ct (by show 2 < 1000; decide) rfl
  · have ok : chOk x = false := by
      unfold chOk
      have : ¬ sizeAll x.items ≤ 8 := by have := of_decide_eq_false h3; omega
      rw [decide_eq_false this, Bool.and_false]
    rw [ok]
    exact ⟨rfl, rfl⟩
/-! ### levels -/
def ways5 : List (List Nat) := [(Str.ofString "left").cps.toList, (Str.ofString "right").cps.toList, (Str.ofString "alone").cps.toList, (Str.ofString "ahead").cps.toList, (Str.ofString "behind").cps.toList]
def betw3 : List (List Nat) := [(Str.ofString "left").cps.toList, (Str.ofString "right").cps.toList, (Str.ofString "alone").cps.toList]
def lvOk (way : List Nat) (ws : List (List Nat)) : Bool := (decide (way ∈ ways5) && (decide (1 ≤ ws.length) && decide (ws.length ≤ 4))) && ws.all isFixed
structure LvL (way : List Nat) (ws : List (List Nat)) : Prop where
  n : ws.length ≤ 1000
  p : ∀ w ∈ ws, w.length ≤ 1000
def R_need_level (X : Addr) (ds : List Dat) (o : Out) : Prop := ∃ way q ws, ds = [.txt way, sq q (ws.map .txt)] ∧ LvL way ws ∧ o = if lvOk way ws then .val .non else .exc X []
theorem s_allFixed {K : PySem.W.Frag} {ρ : List Sl} {te : TE} {i : Nat} {q : Bool} {ws : List (List Nat)} (h : Sem K te ρ (sq q (ws.map .txt))) (hn : ws.length ≤ 1000) (hp : ∀ w ∈ ws, w.length ≤ 1000) (hi : i < ρ.length) :
    Sem K (tCB (rAll K) (tCons (tLc (iU K te) (gName i) tYes (tCall (spD K R_is_fixed) [] E0 (tCons (tVar i) tNil)) [i]) tNil)) ρ (.bl (ws.all isFixed)) := by
  have hS : sizeLine = 16777216 := rfl
  exact s_cb (sa_cons (s_ofN (sn_lcM (xs := ws) (enc := .txt) (g := fun w => .bl (isFixed w)) (si_u h sq_items) (by omega) fun w hw => s_call (sa_cons (a := .txt w) (s_var (List.getElem?_set_self hi)) sa_nil) (r_is_fixedT (by have := hp w hw; omega)))) sa_nil) cs_allM
theorem h_need_level {K : PySem.W.Frag} {X : Addr} {gW gM : V} (hW : ∀ G, DR K G gW (.tup (ways5.map .txt))) (hM : ∀ G, DR K G gM (.int 4)) (W : WX) (ds : List Dat) (o : Out) (h : R_need_level X ds o) :
    SemS K W (T_need_level K (spO K (R_need X)) (spD K R_is_fixed) gW gM W) (slots 3 ds) (PO o) := by
  obtain ⟨way, q, ws, rfl, hl, rfl⟩ := h
  have hn := hl.n
  have hc : CallS K (uLen K) [sq q (ws.map .txt)] (.int (ws.length : Nat)) := by have := cs_lenQ (K := K) (b := q) (ds := ws.map .txt); rw [List.length_map] at this; exact this
  apply ss_seq
  refine ss_need (b := decide (way ∈ ways5) && (decide ((1 : Int) ≤ (ws.length : Nat)) && decide (((ws.length : Nat) : Int) ≤ 4))) (s_andB (s_op (s_var rfl) (s_c hW) os_inTT) fun _ => s_chain s_int (s_cb (sa_cons (s_var rfl) sa_nil) hc) os_le (fun _ => s_c hM) (fun _ => os_le)) (fun h1 => ?_) (fun h1 => ?_)
  · have e1 : (decide (way ∈ ways5) && (decide (1 ≤ ws.length) && decide (ws.length ≤ 4))) = true := by
      simp only [Bool.and_eq_true, decide_eq_true_eq] at h1 ⊢
      exact ⟨h1.1, by omega, by omega⟩
    refine ss_need (s_allFixed (i := 2) (s_var rfl) hn hl.p (by show 2 < 3; decide)) (fun h2 => ?_) (fun h2 => ?_)
    · rw [show lvOk way ws = true by unfold lvOk; rw [e1, h2]; rfl]
      exact rfl
    · rw [show lvOk way ws = false by unfold lvOk; rw [h2, Bool.and_false]]
      exact ⟨rfl, rfl⟩
  · have e1 : (decide (way ∈ ways5) && (decide (1 ≤ ws.length) && decide (ws.length ≤ 4))) = false := by
      rw [← Bool.not_eq_true, Bool.and_eq_true, Bool.and_eq_true, decide_eq_true_eq, decide_eq_true_eq, decide_eq_true_eq]
      rw [← Bool.not_eq_true, Bool.and_eq_true, Bool.and_eq_true, decide_eq_true_eq, decide_eq_true_eq, decide_eq_true_eq] at h1
      exact fun z => h1 ⟨z.1, by omega, by omega⟩
    rw [show lvOk way ws = false by unfold lvOk; rw [e1]; rfl]
    exact ⟨rfl, rfl⟩
def tBetween : List Nat := (Str.ofString "between").cps.toList
def placeOf (way : List Nat) : List Nat := if decide (way ∈ betw3) then tBetween else way
def R_place_of (ds : List Dat) (d : Dat) : Prop := ∃ way, ds = [.txt way] ∧ d = .txt (placeOf way)
theorem h_place_of {K : PySem.W.Frag} {W : WX} {gB : V} (hB : ∀ G, DR K G gB (.tup (betw3.map .txt))) (ds : List Dat) (d : Dat) (h : R_place_of ds d) : SemS K W (T_place_of K gB) (slots 1 ds) (PF d) := by
  obtain ⟨way, rfl, rfl⟩ := h
  refine ss_ret (d := .txt (placeOf way)) (s_is (s_if (k := decide (way ∈ betw3)) (a := .txt tBetween) (b := .txt way) (st_test (s_op (s_var rfl) (s_c hB) os_inTT)) (fun _ => s_str) (fun _ => s_var rfl)) ?_) rfl
  unfold placeOf
  cases decide (way ∈ betw3) <;> rfl
/-! ### joins -/
abbrev Pr := List Nat × List Nat
def prD (x : Pr) : Dat := .tup [.txt x.1, .txt x.2]
theorem isOf_okc {t s : List Nat} {m : Int} (hs : ∀ c ∈ s, c < 1114112) (h : isOf t s m = true) : Okc t := fun c hc => by
  unfold isOf at h
  rw [Bool.and_eq_true, List.all_eq_true] at h
  exact hs c (of_decide_eq_true (h.2 c hc))
theorem letters_okc : ∀ c ∈ letters, c < 1114112 := by decide +kernel
theorem signs_okc : ∀ c ∈ signs, c < 1114112 := by decide +kernel
theorem isFixed_okc {t : List Nat} (h : isFixed t = true) : Okc t := by
  unfold isFixed at h
  rw [Bool.or_eq_true] at h
  rcases h with h | h
  · exact isOf_okc letters_okc h
  · exact isOf_okc signs_okc h
theorem isName_okc {t : List Nat} (h : isName t = true) : Okc t := by
  unfold isName at h
  rw [Bool.and_eq_true] at h
  exact isOf_okc letters_okc h.1
theorem ways_okc : ∀ t ∈ ways5, Okc t ∧ t.length ≤ 1000 := by unfold Okc; decide +kernel
theorem betw_okc : Okc tBetween := by unfold Okc; decide +kernel
theorem place_okc {way : List Nat} (h : way ∈ ways5) : Okc (placeOf way) := by
  unfold placeOf
  split
  · exact betw_okc
  · exact (ways_okc way h).1
theorem prD_inj {x y : Pr} (h : prD x = prD y) : x = y := by
  obtain ⟨a, b⟩ := x
  obtain ⟨c, d⟩ := y
  injection h with h
  rw [List.cons.injEq, List.cons.injEq] at h
  injection h.1 with h1
  injection h.2.1 with h2
  exact Prod.ext h1 h2
theorem prD_mem {x : Pr} {l : List Pr} : decide (x ∈ l) = true ↔ prD x ∈ l.map prD := by
  rw [decide_eq_true_eq, List.mem_map]
  exact ⟨fun h => ⟨x, h, rfl⟩, fun ⟨y, hy, e⟩ => prD_inj e ▸ hy⟩
def addWords (pl : List Nat) : List Pr → List (List Nat) → Option (List Pr)
  | s, [] => some s
  | s, w :: r => if decide ((pl, w) ∈ s) then none else addWords pl (s ++ [(pl, w)]) r
def addLevels : List Pr → List (List Nat × List (List Nat)) → Option (List Pr)
  | s, [] => some s
  | s, x :: r => if lvOk x.1 x.2 then (addWords (placeOf x.1) s x.2).bind fun s' => addLevels s' r else none
theorem addWords_app (pl : List Nat) : ∀ (a : List (List Nat)) (s : List Pr) (b : List (List Nat)), addWords pl s (a ++ b) = (addWords pl s a).bind fun s' => addWords pl s' b
  | [], s, b => rfl
  | w :: r, s, b => by
    show (if decide ((pl, w) ∈ s) = true then none else addWords pl (s ++ [(pl, w)]) (r ++ b)) = (if decide ((pl, w) ∈ s) = true then none else addWords pl (s ++ [(pl, w)]) r).bind _
    split
    · rfl
    · exact addWords_app pl r _ b
theorem addLevels_app : ∀ (a : List (List Nat × List (List Nat))) (s : List Pr) (b : List (List Nat × List (List Nat))), addLevels s (a ++ b) = (addLevels s a).bind fun s' => addLevels s' b
  | [], s, b => rfl
  | x :: r, s, b => by
    show (if lvOk x.1 x.2 = true then (addWords (placeOf x.1) s x.2).bind fun s' => addLevels s' (r ++ b) else none) = (if lvOk x.1 x.2 = true then (addWords (placeOf x.1) s x.2).bind fun s' => addLevels s' r else none).bind _
    split
    · cases addWords (placeOf x.1) s x.2 with
      | none => rfl
      | some s' => exact addLevels_app r s' b
    · rfl
theorem addWords_len {pl : List Nat} : ∀ {ws : List (List Nat)} {s s' : List Pr}, addWords pl s ws = some s' → s'.length = s.length + ws.length
  | [], s, s', h => by cases h; rfl
  | w :: r, s, s', h => by
    unfold addWords at h
    split at h
    · cases h
    · have := addWords_len h
      rw [List.length_append] at this
      simp only [List.length_cons, List.length_nil] at this ⊢
      omega
def jnOk (x : Jn) : Bool := isName x.part && isName x.of && (decide (x.br.length = 2) && x.br.all isFixed) && (decide (1 ≤ x.lv.length) && decide (x.lv.length ≤ 5)) && (addLevels [] x.lv).isSome
structure JnL (x : Jn) : Prop where
  p : x.part.length ≤ 1000
  o : x.of.length ≤ 1000
  b : x.br.length ≤ 1000 ∧ ∀ w ∈ x.br, w.length ≤ 1000
  n : x.lv.length ≤ 1000
  l : ∀ y ∈ x.lv, LvL y.1 y.2
/-- a level as it is handed in -/
def lvI (q : Bool) (x : List Nat × List (List Nat)) : Dat := .tup [.txt x.1, sq q (x.2.map .txt)]
def R_Joins (g : Cg) (X : Addr) (ds : List Dat) (o : Out) : Prop := ∃ x q1 q2 q3, ds = [.txt x.part, .txt x.of, sq q1 (x.br.map .txt), sq q2 (x.lv.map (lvI q3))] ∧ JnL x ∧ o = if jnOk x then .mt (jnO g x) else .exc X []
theorem good_pr {x : Pr} (h1 : Okc x.1) (h2 : Okc x.2) : goodD 1 (prD x) := fun d hd => by
  rcases List.mem_cons.mp hd with z | z
  · rw [z]; exact h1
  · rcases List.mem_cons.mp z with z | z
    · rw [z]; exact h2
    · cases z
/-- pairs that can be compared -/
def Prs (s : List Pr) : Prop := ∀ x ∈ s, Okc x.1 ∧ Okc x.2
theorem s_place {K : PySem.W.Frag} {ρ : List Sl} {way w : List Nat} {i j : Nat} (h1 : ρ[i]? = some (.dat (.txt way))) (h2 : ρ[j]? = some (.dat (.txt w))) : Sem K (tTup (tCons (tCall (spD K R_place_of) [] E0 (tCons (tVar i) tNil)) (tCons (tVar j) tNil))) ρ (prD (placeOf way, w)) :=
  s_tup (sa_cons (s_call (sa_cons (s_var h1) sa_nil) ⟨way, rfl, rfl⟩) (sa_cons (s_var h2) sa_nil)) (by show 2 ≤ sizeLine; decide)
theorem h_Joins___init__ {K : PySem.W.Frag} {g : Cg} {X : Addr} {gM : V} (hM : ∀ G, DR K G gM (.int 5)) (kg : Kg K g) (W : WX) (a : Addr) (ds : List Dat) (o : Out) (h : R_Joins g X ds o) :
    SemS K W (T_Joins___init__ K (spO K (R_need_name X)) (spO K (R_need X)) (spD K R_is_fixed) (spO K (R_need_level X)) (spD K R_place_of) gM W) (.mt (.me a (.ins g.J [])) :: slots 8 ds) (PI a o) := by
  obtain ⟨x, q1, q2, q3, rfl, hl, rfl⟩ := h
  have hS : sizeLine = 16777216 := rfl
  have l1 := hl.p
  have l2 := hl.o
  have l3 := hl.b
  have l4 := hl.n
  have cb : CallS K (uLen K) [sq q1 (x.br.map .txt)] (.int (x.br.length : Nat)) := by have := cs_lenQ (K := K) (b := q1) (ds := x.br.map .txt); rw [List.length_map] at this; exact this
  have cl : CallS K (uLen K) [sq q2 (x.lv.map (lvI q3))] (.int (x.lv.length : Nat)) := by have := cs_lenQ (K := K) (b := q2) (ds := x.lv.map (lvI q3)); rw [List.length_map] at this; exact this
  apply ss_seq
  refine ss_needName (t := x.part) (s_var rfl) (by omega) (fun h1 => ?_) (fun h1 => by rw [show jnOk x = false by unfold jnOk; rw [h1]; rfl]; exact ⟨rfl, rfl⟩)
  apply ss_seq
  refine ss_needName (t := x.of) (s_var rfl) (by omega) (fun h2 => ?_) (fun h2 => by rw [show jnOk x = false by unfold jnOk; rw [h1, h2]; rfl]; exact ⟨rfl, rfl⟩)
  apply ss_seq
  refine ss_need (b := decide (((x.br.length : Nat) : Int) = 2) && x.br.all isFixed) (s_andB (s_op (s_cb (sa_cons (s_var rfl) sa_nil) cb) s_int os_eqI) fun _ => s_allFixed (i := 8) (s_var rfl) l3.1 l3.2 (by show 8 < 9; decide)) (fun h3 => ?_) (fun h3 => ?_)
  rotate_left
  · rw [show jnOk x = false by
      unfold jnOk
      have e : (decide (x.br.length = 2) && x.br.all isFixed) = false := by
        rw [← h3]
        congr 1
        rw [Bool.eq_iff_iff, decide_eq_true_eq, decide_eq_true_eq]
        omega
      rw [e, Bool.and_false]; rfl]
    exact ⟨rfl, rfl⟩
  have e3 : (decide (x.br.length = 2) && x.br.all isFixed) = true := by
    rw [← h3]
    congr 1
    rw [Bool.eq_iff_iff, decide_eq_true_eq, decide_eq_true_eq]
    omega
  apply ss_seq
  refine ss_need (b := decide ((1 : Int) ≤ (x.lv.length : Nat)) && decide (((x.lv.length : Nat) : Int) ≤ 5)) (s_chain s_int (s_cb (sa_cons (s_var rfl) sa_nil) cl) os_le (fun _ => s_c hM) (fun _ => os_le)) (fun h4 => ?_) (fun h4 => ?_)
  rotate_left
  · rw [show jnOk x = false by
      unfold jnOk
      have e : (decide (1 ≤ x.lv.length) && decide (x.lv.length ≤ 5)) = false := by
        rw [← h4]
        congr 1
        · rw [Bool.eq_iff_iff, decide_eq_true_eq, decide_eq_true_eq]; omega
        · rw [Bool.eq_iff_iff, decide_eq_true_eq, decide_eq_true_eq]; omega
      rw [e, Bool.and_false]; rfl]
    exact ⟨rfl, rfl⟩
  have e4 : (decide (1 ≤ x.lv.length) && decide (x.lv.length ≤ 5)) = true := by
    rw [← h4]
    congr 1
    · rw [Bool.eq_iff_iff, decide_eq_true_eq, decide_eq_true_eq]; omega
    · rw [Bool.eq_iff_iff, decide_eq_true_eq, decide_eq_true_eq]; omega
  have n5 : x.lv.length ≤ 5 := by
    rw [Bool.and_eq_true, decide_eq_true_eq, decide_eq_true_eq] at e4
    exact e4.2
  have jn : jnOk x = (addLevels [] x.lv).isSome := by unfold jnOk; rw [h1, h2, e3, e4]; rfl
  apply ss_seq
  refine ss_asgN (sn_lst sa_nil (by show 0 ≤ sizeLine; decide)) ?_
  apply ss_seq
  refine ss_for (ds := x.lv.map (lvI q3)) (si_u (s_var rfl) sq_items) (fun i ρ => ∃ s s6 s7 s8, addLevels [] (x.lv.take i) = some s ∧ s.length ≤ 4 * i ∧ Prs s ∧ ρ = [.mt (.me a (.ins g.J [])), .dat (.txt x.part), .dat (.txt x.of), .dat (sq q1 (x.br.map .txt)), .dat (sq q2 (x.lv.map (lvI q3))), .own (s.map prD), s6, s7, s8]) ⟨[], _, _, _, rfl, Nat.zero_le _, (fun _ h => by cases h), rfl⟩ ?_ ?_
  · rintro i d ρ1 hd ⟨s, s6, s7, s8, ea, ln, prs, rfl⟩
    rw [List.getElem?_map] at hd
    obtain ⟨y, hy, rfl⟩ : ∃ y, x.lv[i]? = some y ∧ lvI q3 y = d := by
      cases z : x.lv[i]? with
      | none => rw [z] at hd; cases hd
      | some y => rw [z] at hd; exact ⟨y, rfl, Option.some.inj hd⟩
    have hi : i < x.lv.length := (List.getElem?_eq_some_iff.mp hy).1
    have ly := hl.l y (List.mem_of_getElem? hy)
    have split : x.lv = x.lv.take i ++ y :: x.lv.drop (i + 1) := by
      have z := List.getElem?_eq_some_iff.mp hy
      obtain ⟨_, z⟩ := z
      rw [← z]
      exact (List.take_append_drop i x.lv).symm.trans (by rw [List.drop_eq_getElem_cons hi])
    have fail : (lvOk y.1 y.2 = false ∨ addWords (placeOf y.1) s y.2 = none) → jnOk x = false := fun z => by
      rw [jn, split, addLevels_app, ea]
      show (addLevels s (y :: x.lv.drop (i + 1))).isSome = false
      unfold addLevels
      rcases z with z | z
      · rw [z]; rfl
      · rw [z]
        cases lvOk y.1 y.2 <;> rfl
    refine ⟨_, sg_tup (ds := [.txt y.1, sq q3 (y.2.map .txt)]) (sgs_cons sg_name (sgs_cons sg_name sgs_nil)) rfl, ?_⟩
    apply ss_seq
    cases hk : lvOk y.1 y.2 with
    | false =>
      refine sx_drop (sx_call (sa_cons (s_var rfl) (sa_cons (s_var rfl) sa_nil)) ⟨y.1, q3, y.2, rfl, ly, by rw [hk]; rfl⟩) ?_
      rw [fail (.inl hk)]
      exact ⟨rfl, rfl⟩
    | true =>
      have hw5 : y.1 ∈ ways5 := by
        unfold lvOk at hk
        rw [Bool.and_eq_true, Bool.and_eq_true, decide_eq_true_eq] at hk
        exact hk.1.1
      have hfx : ∀ w ∈ y.2, isFixed w = true := by
        unfold lvOk at hk
        rw [Bool.and_eq_true, List.all_eq_true] at hk
        exact hk.2
      have hw4 : y.2.length ≤ 4 := by
        unfold lvOk at hk
        rw [Bool.and_eq_true, Bool.and_eq_true, Bool.and_eq_true] at hk
        exact of_decide_eq_true hk.1.2.2
      refine ss_drop (s_callO (sa_cons (s_var rfl) (sa_cons (s_var rfl) sa_nil)) ⟨y.1, q3, y.2, rfl, ly, by rw [hk]; rfl⟩) ?_
      refine ss_for (ds := y.2.map .txt) (si_u (s_var rfl) sq_items) (fun m ρ => ∃ s' s8, addWords (placeOf y.1) s (y.2.take m) = some s' ∧ s'.length ≤ 4 * i + m ∧ Prs s' ∧ ρ = [.mt (.me a (.ins g.J [])), .dat (.txt x.part), .dat (.txt x.of), .dat (sq q1 (x.br.map .txt)), .dat (sq q2 (x.lv.map (lvI q3))), .own (s'.map prD), .dat (.txt y.1), .dat (sq q3 (y.2.map .txt)), s8]) ⟨s, _, rfl, by omega, prs, rfl⟩ ?_ ?_
      · rintro m d ρ1 hd ⟨s', s8', eb, ln', prs', rfl⟩
        rw [List.getElem?_map] at hd
        obtain ⟨w, hw, rfl⟩ : ∃ w, y.2[m]? = some w ∧ Dat.txt w = d := by
          cases z : y.2[m]? with
          | none => rw [z] at hd; cases hd
          | some w => rw [z] at hd; exact ⟨w, rfl, Option.some.inj hd⟩
        have hm : m < y.2.length := (List.getElem?_eq_some_iff.mp hw).1
        have okw : Okc w := isFixed_okc (hfx w (List.mem_of_getElem? hw))
        have okp := place_okc hw5
        have tk : y.2.take (m + 1) = y.2.take m ++ [w] := by rw [List.take_succ, hw]; rfl
        have splitw : y.2 = y.2.take m ++ w :: y.2.drop (m + 1) := by
          obtain ⟨_, z⟩ := List.getElem?_eq_some_iff.mp hw
          rw [← z]
          exact (List.take_append_drop m y.2).symm.trans (by rw [List.drop_eq_getElem_cons hm])
        refine ⟨_, sg_name, ?_⟩
        apply ss_seq
        refine ss_need (b := !decide ((placeOf y.1, w) ∈ s')) (s_peekA rfl (s_op (a := prD (placeOf y.1, w)) (b := .lst (s'.map prD)) (s_place rfl rfl) (s_var rfl) (os_notinK (n := 1) (m := 1) (good_pr okp okw) (good_map fun z hz => good_pr (prs' z hz).1 (prs' z hz).2) (by decide) (by decide) prD_mem))) (fun h5 => ?_) (fun h5 => ?_)
        · have nin : decide ((placeOf y.1, w) ∈ s') = false := by simpa using h5
          refine ss_app (ds := s'.map prD) rfl (s_place (i := 6) (j := 8) rfl rfl) (by rw [List.length_map]; omega) ⟨s' ++ [(placeOf y.1, w)], _, ?_, by rw [List.length_append]; simp only [List.length_cons, List.length_nil]; omega, fun z hz => ?_, by rw [List.map_append]; rfl⟩
          · rw [tk, addWords_app, eb]
            show (if decide ((placeOf y.1, w) ∈ s') = true then none else some (s' ++ [(placeOf y.1, w)])) = _
            rw [nin]; rfl
          · rcases List.mem_append.mp hz with z' | z'
            · exact prs' z z'
            · rw [List.mem_singleton.mp z']; exact ⟨okp, okw⟩
        · have nin : decide ((placeOf y.1, w) ∈ s') = true := by simpa using h5
          rw [fail (.inr ?_)]
          · exact ⟨rfl, rfl⟩
          · rw [splitw, addWords_app, eb]
            show (if decide ((placeOf y.1, w) ∈ s') = true then none else _) = none
            rw [nin]; rfl
      · rintro ρ1 ⟨s', s8', eb, ln', prs', rfl⟩
        rw [List.length_map, List.take_length] at eb
        rw [List.length_map] at ln'
        refine ⟨s', _, _, _, ?_, by omega, prs', rfl⟩
        have tk : x.lv.take (i + 1) = x.lv.take i ++ [y] := by rw [List.take_succ, hy]; rfl
        rw [tk, addLevels_app, ea]
        show (if lvOk y.1 y.2 = true then (addWords (placeOf y.1) s y.2).bind fun s' => some s' else none) = _
        rw [hk, eb]; rfl
  · rintro ρ1 ⟨s, s6, s7, s8, ea, ln, prs, rfl⟩
    rw [List.length_map, List.take_length] at ea
    rw [show jnOk x = true by rw [jn, ea]; rfl]
    apply ss_seq
    refine ss_fld (os := []) rfl (sm_dat (s_var rfl)) kg.J.cl kg.Jp (by decide) ?_
    apply ss_seq
    refine ss_fld (os := [("part", .dat (.txt x.part))]) rfl (sm_dat (s_var rfl)) kg.J.cl kg.Jo (by show 1 < 1000; decide) ?_
    apply ss_seq
    refine ss_fld (os := [("part", .dat (.txt x.part)), ("of", .dat (.txt x.of))]) rfl (sm_dat (s_cb (sa_cons (s_var rfl) sa_nil) (cs_tuple sq_seq))) kg.J.cl kg.Jb (by show 2 < 1000; decide) ?_
    refine ss_fld (os := [("part", .dat (.txt x.part)), ("of", .dat (.txt x.of)), ("brackets", .dat (.tup (x.br.map .txt)))]) rfl (sm_dat (s_cb (sa_cons (a := .lst (x.lv.map lvD)) (s_ofN (sn_lcGA (xs := x.lv) (enc := lvI q3) (gd := lvD) (si_u (s_var rfl) sq_items) (by omega) fun y hy => ⟨_, sgv_tup (ds := [.txt y.1, sq q3 (y.2.map .txt)]) (sgvs_cons (sgv_name (by decide)) (sgvs_cons (sgv_name (by decide)) sgvs_nil)) rfl, ?_⟩)) sa_nil) (cs_tuple rfl))) kg.J.cl kg.Jl (by show 3 < 1000; decide) rfl
    exact s_tup (sa_cons (a := .txt y.1) (s_var rfl) (sa_cons (a := .tup (y.2.map .txt)) (s_cb (sa_cons (a := sq q3 (y.2.map .txt)) (s_var rfl) sa_nil) (cs_tuple sq_seq)) sa_nil)) (by show 2 ≤ sizeLine; decide)

/-! ### grammars -/
def labs (x : Gm) : List Pr := x.cs.map fun c => (c.part, c.label)
def joined (x : Gm) : List (List Nat) := x.js.map (·.part)
def gmOk (x : Gm) : Bool := isName x.start && (decide (1 ≤ x.cs.length + x.js.length) && (decide (x.cs.length ≤ 24) && decide (x.js.length ≤ 3))) && decide ((ded (labs x)).length = (labs x).length) && decide ((ded (joined x)).length = (joined x).length) && (x.cs.filter fun c => decide (c.part ∈ joined x)).isEmpty
structure GmL (x : Gm) : Prop where
  s : x.start.length ≤ 1000
  c : x.cs.length ≤ 1000
  j : x.js.length ≤ 1000
def R_Grammar (c : Cs) (g : Cg) (X : Addr) (ds : List Dat) (o : Out) : Prop := ∃ x q1 q2, ds = [.txt x.start, sq q1 (x.cs.map (chD c g)), sq q2 (x.js.map (jnD g))] ∧ GmL x ∧ o = if gmOk x then .mt (gmO c g x) else .exc X []
theorem setE_pr {l : List Pr} (h : l.length ≤ 70) : SetE prD l where
  pl := fun _ _ => rfl
  kd := .inr ⟨fun _ _ => rfl, h⟩
  inj := fun a _ b _ e => by
    have e : PyData.tuple [.str (strL a.1), .str (strL a.2)] = PyData.tuple [.str (strL b.1), .str (strL b.2)] := e
    injection e with e
    rw [List.cons.injEq, List.cons.injEq] at e
    injection e.1 with e1
    injection e.2.1 with e2
    exact Prod.ext (strL_inj e1) (strL_inj e2)
theorem setE_txt {l : List (List Nat)} (h : l.length ≤ 3900) : SetE Dat.txt l where
  pl := fun _ _ => rfl
  kd := .inl ⟨fun _ _ => rfl, h⟩
  inj := fun a _ b _ e => by
    have e : PyData.str (strL a) = PyData.str (strL b) := e
    injection e with e
    exact strL_inj e
theorem h_Grammar___init__ {K : PySem.W.Frag} {c : Cs} {g : Cg} {X : Addr} {gC gJ : V} (hC : ∀ G, DR K G gC (.int 24)) (hJ : ∀ G, DR K G gJ (.int 3)) (kg : Kg K g) (W : WX) (a : Addr) (ds : List Dat) (o : Out) (h : R_Grammar c g X ds o) :
    SemS K W (T_Grammar___init__ K (spO K (R_need_name X)) (spO K (R_need X)) gC gJ W) (.mt (.me a (.ins g.G [])) :: slots 7 ds) (PI a o) := by
  obtain ⟨x, q1, q2, rfl, hl, rfl⟩ := h
  have hS : sizeLine = 16777216 := rfl
  have l1 := hl.s
  have l2 := hl.c
  have l3 := hl.j
  have cc : CallS K (uLen K) [sq q1 (x.cs.map (chD c g))] (.int (x.cs.length : Nat)) := by have := cs_lenQ (K := K) (b := q1) (ds := x.cs.map (chD c g)); rw [List.length_map] at this; exact this
  have cj : CallS K (uLen K) [sq q2 (x.js.map (jnD g))] (.int (x.js.length : Nat)) := by have := cs_lenQ (K := K) (b := q2) (ds := x.js.map (jnD g)); rw [List.length_map] at this; exact this
  apply ss_seq
  refine ss_needName (t := x.start) (s_var rfl) (by omega) (fun h1 => ?_) (fun h1 => by rw [show gmOk x = false by unfold gmOk; rw [h1]; rfl]; exact ⟨rfl, rfl⟩)
  apply ss_seq
  refine ss_need (b := decide ((1 : Int) ≤ (x.cs.length : Nat) + (x.js.length : Nat)) && (decide (((x.cs.length : Nat) : Int) ≤ 24) && decide (((x.js.length : Nat) : Int) ≤ 3))) (s_andB (s_op s_int (s_op (s_cb (sa_cons (s_var rfl) sa_nil) cc) (s_cb (sa_cons (s_var rfl) sa_nil) cj) os_addI) os_le) fun _ => s_andB (s_op (s_cb (sa_cons (s_var rfl) sa_nil) cc) (s_c hC) os_le) fun _ => s_op (s_cb (sa_cons (s_var rfl) sa_nil) cj) (s_c hJ) os_le) (fun h2 => ?_) (fun h2 => ?_)
  rotate_left
  · rw [show gmOk x = false by
      unfold gmOk
      have e : (decide (1 ≤ x.cs.length + x.js.length) && (decide (x.cs.length ≤ 24) && decide (x.js.length ≤ 3))) = false := by
        rw [← h2]
        congr 1
        · rw [Bool.eq_iff_iff, decide_eq_true_eq, decide_eq_true_eq]; omega
        · congr 1
          · rw [Bool.eq_iff_iff, decide_eq_true_eq, decide_eq_true_eq]; omega
          · rw [Bool.eq_iff_iff, decide_eq_true_eq, decide_eq_true_eq]; omega
      rw [e, Bool.and_false]; rfl]
    exact ⟨rfl, rfl⟩
  have e2 : (decide (1 ≤ x.cs.length + x.js.length) && (decide (x.cs.length ≤ 24) && decide (x.js.length ≤ 3))) = true := by
    rw [← h2]
    congr 1
    · rw [Bool.eq_iff_iff, decide_eq_true_eq, decide_eq_true_eq]; omega
    · congr 1
      · rw [Bool.eq_iff_iff, decide_eq_true_eq, decide_eq_true_eq]; omega
      · rw [Bool.eq_iff_iff, decide_eq_true_eq, decide_eq_true_eq]; omega
  have b2 : x.cs.length ≤ 24 ∧ x.js.length ≤ 3 := by
    simp only [Bool.and_eq_true, decide_eq_true_eq] at e2
    exact e2.2
  have n1 : (labs x).length = x.cs.length := List.length_map _
  have n2 : (joined x).length = x.js.length := List.length_map _
  apply ss_seq
  refine ss_asg (d := .lst ((labs x).map prD)) (s_is (s_ofN (sn_lcM (xs := x.cs) (enc := chD c g) (g := fun y => prD (y.part, y.label)) (si_u (s_var rfl) sq_items) (by omega) fun y _ => s_tup (sa_cons (a := .txt y.part) (s_fldI (s_var rfl) kg.C.cl kg.Cp rfl) (sa_cons (a := .txt y.label) (s_fldI (s_var rfl) kg.C.cl kg.Cl rfl) sa_nil)) (by show 2 ≤ sizeLine; decide))) (by unfold labs; rw [List.map_map]; rfl)) ?_
  apply ss_seq
  refine ss_need (b := decide (((ded (labs x)).length : Int) = ((labs x).length : Nat))) (s_op (s_lenSet (s_var rfl) (setE_pr (by omega))) (s_is (s_cb (sa_cons (s_var rfl) sa_nil) cs_lenL) (by rw [List.length_map])) os_eqI) (fun h3 => ?_) (fun h3 => ?_)
  rotate_left
  · rw [show gmOk x = false by
      unfold gmOk
      have : ¬ (ded (labs x)).length = (labs x).length := by have := of_decide_eq_false h3; omega
      rw [decide_eq_false this, Bool.and_false]; rfl]
    exact ⟨rfl, rfl⟩
  have e3 : decide ((ded (labs x)).length = (labs x).length) = true := by have := of_decide_eq_true h3; exact decide_eq_true (by omega)
  apply ss_seq
  refine ss_asg (d := .lst ((joined x).map .txt)) (s_is (s_ofN (sn_lcM (xs := x.js) (enc := jnD g) (g := fun y => .txt y.part) (si_u (s_var rfl) sq_items) (by omega) fun y _ => s_fldI (s_var rfl) kg.J.cl kg.Jp rfl)) (by unfold joined; rw [List.map_map]; rfl)) ?_
  apply ss_seq
  refine ss_need (b := decide (((ded (joined x)).length : Int) = ((joined x).length : Nat))) (s_op (s_lenSet (s_var rfl) (setE_txt (by omega))) (s_is (s_cb (sa_cons (s_var rfl) sa_nil) cs_lenL) (by rw [List.length_map])) os_eqI) (fun h4 => ?_) (fun h4 => ?_)
  rotate_left
  · rw [show gmOk x = false by
      unfold gmOk
      have : ¬ (ded (joined x)).length = (joined x).length := by have := of_decide_eq_false h4; omega
      rw [decide_eq_false this, Bool.and_false]; rfl]
    exact ⟨rfl, rfl⟩
  have e4 : decide ((ded (joined x)).length = (joined x).length) = true := by have := of_decide_eq_true h4; exact decide_eq_true (by omega)
  apply ss_seq
  refine ss_need (b := (x.cs.filter fun y => decide (y.part ∈ joined x)).isEmpty) (s_is (s_op (a := .lst ((x.cs.filter fun y => decide (y.part ∈ joined x)).map (chD c g))) (b := .lst []) (s_ofN (sn_lcF (xs := x.cs) (enc := chD c g) (f := fun y => decide (y.part ∈ joined x)) (g := chD c g) (si_u (s_var rfl) sq_items) (by omega) (fun y _ => st_test (s_op (a := .txt y.part) (b := .lst ((joined x).map .txt)) (s_fldI (s_var rfl) kg.C.cl kg.Cp rfl) (s_var rfl) os_inTL)) fun y _ _ => s_var rfl)) (s_lst sa_nil (by show 0 ≤ sizeLine; decide)) os_eqNil) (by rw [List.isEmpty_map])) (fun h5 => ?_) (fun h5 => ?_)
  rotate_left
  · rw [show gmOk x = false by unfold gmOk; rw [h5, Bool.and_false]]
    exact ⟨rfl, rfl⟩
  rw [show gmOk x = true by unfold gmOk; rw [h1, e2, e3, e4, h5]; rfl]
  apply ss_seq
  refine ss_fld (os := []) rfl (sm_dat (s_var rfl)) kg.G.cl kg.Gs (by decide) ?_
  apply ss_seq
  refine ss_fld (os := [("start", .dat (.txt x.start))]) rfl (sm_dat (s_cb (sa_cons (s_var rfl) sa_nil) (cs_tuple sq_seq))) kg.G.cl kg.Gc (by show 1 < 1000; decide) ?_
  exact ss_fld (os := [("start", .dat (.txt x.start)), ("choices", .dat (.tup (x.cs.map (chD c g))))]) rfl (sm_dat (s_cb (sa_cons (s_var rfl) sa_nil) (cs_tuple sq_seq))) kg.G.cl kg.Gj (by show 2 < 1000; decide) rfl
section
variable {K : PySem.W.Frag} {c : Cs} {g : Cg} {X : Addr} {ρ : List Sl} {te tf th ti : TE} {E : L2.St → XK} {W : WX}
theorem s_choice {x : Chc} {q : Bool} (h1 : Sem K te ρ (.txt x.part)) (h2 : Sem K tf ρ (.txt x.label)) (h3 : Sem K th ρ (sq q (x.items.map (iins c)))) (hl : ChL x) (ho : chOk x = true) : Sem K (tMkU g.C (spInit K g.C (R_Choice c g X)) [] E (tCons te (tCons tf (tCons th tNil)))) ρ (chD c g x) :=
  s_ofM (o := chO c g x) (sm_mk (ds := [.txt x.part, .txt x.label, sq q (x.items.map (iins c))]) (es := []) (sa_cons h1 (sa_cons h2 (sa_cons h3 sa_nil))) (fun _ => .nil) ⟨x, q, rfl, hl, by rw [ho]; rfl⟩)
theorem s_joins {x : Jn} {q1 q2 q3 : Bool} (h1 : Sem K te ρ (.txt x.part)) (h2 : Sem K tf ρ (.txt x.of)) (h3 : Sem K th ρ (sq q1 (x.br.map .txt))) (h4 : Sem K ti ρ (sq q2 (x.lv.map (lvI q3)))) (hl : JnL x) (ho : jnOk x = true) : Sem K (tMkU g.J (spInit K g.J (R_Joins g X)) [] E (tCons te (tCons tf (tCons th (tCons ti tNil))))) ρ (jnD g x) :=
  s_ofM (o := jnO g x) (sm_mk (ds := [.txt x.part, .txt x.of, sq q1 (x.br.map .txt), sq q2 (x.lv.map (lvI q3))]) (es := []) (sa_cons h1 (sa_cons h2 (sa_cons h3 (sa_cons h4 sa_nil)))) (fun _ => .nil) ⟨x, q1, q2, q3, rfl, hl, by rw [ho]; rfl⟩)
theorem s_grammar {x : Gm} {q1 q2 : Bool} (h1 : Sem K te ρ (.txt x.start)) (h2 : Sem K tf ρ (sq q1 (x.cs.map (chD c g)))) (h3 : Sem K th ρ (sq q2 (x.js.map (jnD g)))) (hl : GmL x) (ho : gmOk x = true) : Sem K (tMkU g.G (spInit K g.G (R_Grammar c g X)) [] E (tCons te (tCons tf (tCons th tNil)))) ρ (gmD c g x) :=
  s_ofM (o := gmO c g x) (sm_mk (ds := [.txt x.start, sq q1 (x.cs.map (chD c g)), sq q2 (x.js.map (jnD g))]) (es := []) (sa_cons h1 (sa_cons h2 (sa_cons h3 sa_nil))) (fun _ => .nil) ⟨x, q1, q2, rfl, hl, by rw [ho]; rfl⟩)
theorem sx_choice {x : Chc} {q : Bool} (h1 : Sem K te ρ (.txt x.part)) (h2 : Sem K tf ρ (.txt x.label)) (h3 : Sem K th ρ (sq q (x.items.map (iins c)))) (hl : ChL x) (ho : chOk x = false) : SemX K W (tMkU g.C (spInit K g.C (R_Choice c g X)) [] (WE W) (tCons te (tCons tf (tCons th tNil)))) ρ X [] :=
  sx_mk (ds := [.txt x.part, .txt x.label, sq q (x.items.map (iins c))]) (es := []) (sa_cons h1 (sa_cons h2 (sa_cons h3 sa_nil))) (fun _ => .nil) ⟨x, q, rfl, hl, by rw [ho]; rfl⟩
theorem sx_joins {x : Jn} {q1 q2 q3 : Bool} (h1 : Sem K te ρ (.txt x.part)) (h2 : Sem K tf ρ (.txt x.of)) (h3 : Sem K th ρ (sq q1 (x.br.map .txt))) (h4 : Sem K ti ρ (sq q2 (x.lv.map (lvI q3)))) (hl : JnL x) (ho : jnOk x = false) : SemX K W (tMkU g.J (spInit K g.J (R_Joins g X)) [] (WE W) (tCons te (tCons tf (tCons th (tCons ti tNil))))) ρ X [] :=
  sx_mk (ds := [.txt x.part, .txt x.of, sq q1 (x.br.map .txt), sq q2 (x.lv.map (lvI q3))]) (es := []) (sa_cons h1 (sa_cons h2 (sa_cons h3 (sa_cons h4 sa_nil)))) (fun _ => .nil) ⟨x, q1, q2, q3, rfl, hl, by rw [ho]; rfl⟩
theorem sx_grammar {x : Gm} {q1 q2 : Bool} (h1 : Sem K te ρ (.txt x.start)) (h2 : Sem K tf ρ (sq q1 (x.cs.map (chD c g)))) (h3 : Sem K th ρ (sq q2 (x.js.map (jnD g)))) (hl : GmL x) (ho : gmOk x = false) : SemX K W (tMkU g.G (spInit K g.G (R_Grammar c g X)) [] (WE W) (tCons te (tCons tf (tCons th tNil)))) ρ X [] :=
  sx_mk (ds := [.txt x.start, sq q1 (x.cs.map (chD c g)), sq q2 (x.js.map (jnD g))]) (es := []) (sa_cons h1 (sa_cons h2 (sa_cons h3 sa_nil))) (fun _ => .nil) ⟨x, q1, q2, rfl, hl, by rw [ho]; rfl⟩
end

/-! ### written -/
theorem len_inText {l : List PIt} (hn : l.length ≤ 100) (hp : ∀ p ∈ l, goodP p) : (inText l).length ≤ 1300 := by
  have h1 : ((l.map textP).map (·.length)).sum ≤ l.length * 11 := sum_len_le textP 11 l fun p hp' => by
    have := textP_len p
    have h9 : lenP p ≤ 9 := by
      cases p with
      | part n => exact (hp _ hp').2
      | word n => exact (hp _ hp').2
    omega
  have h2 := joinL_sum [32] (l.map textP)
  rw [List.length_map] at h2
  unfold inText
  simp only [List.length_cons, List.length_nil] at h2
  omega
theorem len_itext {i : Itm} (h : goodI i) : (itext i).length ≤ 3000 := by
  obtain ⟨b1, b2, b3, b4, b5⟩ := br_len
  cases i with
  | pl p =>
    have := textP_len p
    have h9 := good_lenP h
    show (textP p).length ≤ 3000
    omega
  | maybe l =>
    have := len_inText h.2.1 h.2.2
    show (oM ++ inText l ++ cM).length ≤ 3000
    simp only [List.length_append]
    omega
  | again l b =>
    have := len_inText h.2.1 h.2.2.1
    have hel : (endA b).length ≤ 1100 := by
      cases b with
      | none => show cA.length ≤ 1100; omega
      | some t =>
        have ht : t.length ≤ 1000 := h.2.2.2.2
        have hc := cutL_len t (some 1) none
        show (slA ++ (39 :: cutL t (some 1) none ++ [39]) ++ cA).length ≤ 1100
        simp only [List.length_append, List.length_cons, List.length_nil]
        omega
    show (oA ++ inText l ++ endA b).length ≤ 3000
    simp only [List.length_append]
    omega
def tEq : List Nat := (Str.ofString "=").cps.toList
def tJoins : List Nat := (Str.ofString "joins").cps.toList
def tIn : List Nat := (Str.ofString "in").cps.toList
def nl1 : List Nat := (Str.ofString "\n").cps.toList
def tStart : List Nat := (Str.ofString "start ").cps.toList
theorem tx_len : tEq.length = 1 ∧ tJoins.length = 5 ∧ tIn.length = 2 ∧ nl1 = [10] ∧ tStart.length = 6 := by decide +kernel
def quot (w : List Nat) : List Nat := 39 :: w ++ [39]
theorem quot_len (w : List Nat) : (quot w).length = w.length + 2 := by unfold quot; simp
structure goodC (x : Chc) : Prop where
  l : ChL x
  o : chOk x = true
  i : ∀ i ∈ x.items, goodI i
theorem size_pos (i : Itm) : 1 ≤ sizeI i := by
  cases i with
  | pl p => exact Nat.le_refl _
  | maybe l => show 1 ≤ 1 + l.length; omega
  | again l b => show 1 ≤ 1 + l.length; omega
theorem sizeAll_len : ∀ l : List Itm, l.length ≤ sizeAll l
  | [] => Nat.le_refl _
  | i :: r => by
    have := sizeAll_len r
    have := size_pos i
    unfold sizeAll at *
    rw [List.map_cons, List.sum_cons, List.length_cons]
    omega
theorem goodC.few {x : Chc} (h : goodC x) : x.items.length ≤ 8 := by
  have z := h.o
  unfold chOk at z
  rw [Bool.and_eq_true] at z
  have := of_decide_eq_true z.2
  have := sizeAll_len x.items
  omega
def chText (x : Chc) : List Nat := joinL [32] ([x.part, x.label, tEq] ++ x.items.map itext)
theorem sum_map_le {α : Type} (f : α → Nat) (m : Nat) : ∀ xs : List α, (∀ x ∈ xs, f x ≤ m) → (xs.map f).sum ≤ xs.length * m
  | [], _ => Nat.zero_le _
  | x :: r, h => by
    have h1 := h x (.head _)
    have h2 := sum_map_le f m r fun y hy => h y (.tail _ hy)
    rw [List.map_cons, List.sum_cons, List.length_cons, Nat.succ_mul]
    omega
theorem ch_sum {x : Chc} (h : goodC x) : (([x.part, x.label, tEq] ++ x.items.map itext).map (·.length)).sum ≤ 26100 ∧ ([x.part, x.label, tEq] ++ x.items.map itext).length ≤ 11 := by
  have l1 := h.l.p
  have l2 := h.l.l
  have h3 := h.few
  have h4 : ((x.items.map itext).map (·.length)).sum ≤ x.items.length * 3000 := sum_len_le itext 3000 x.items fun i hi => len_itext (h.i i hi)
  obtain ⟨b1, _⟩ := tx_len
  constructor
  · rw [List.map_append, List.sum_append]
    show x.part.length + (x.label.length + (tEq.length + 0)) + _ ≤ _
    omega
  · rw [List.length_append, List.length_map]
    show 3 + _ ≤ 11
    omega
theorem chText_len {x : Chc} (h : goodC x) : (chText x).length ≤ 26200 := by
  obtain ⟨h1, h2⟩ := ch_sum h
  have h3 := joinL_sum [32] ([x.part, x.label, tEq] ++ x.items.map itext)
  unfold chText
  simp only [List.length_cons, List.length_nil] at h3
  omega
def R_choice_text (c : Cs) (g : Cg) (ds : List Dat) (d : Dat) : Prop := ∃ x, ds = [chD c g x] ∧ goodC x ∧ d = .txt (chText x)
theorem h_choice_text {K : PySem.W.Frag} {W : WX} {c : Cs} {g : Cg} (k : Kc K c) (kg : Kg K g) (ds : List Dat) (d : Dat) (h : R_choice_text c g ds d) : SemS K W (T_choice_text K (msX1 K c)) (slots 2 ds) (PF d) := by
  obtain ⟨x, rfl, hg, rfl⟩ := h
  have hS : sizeLine = 16777216 := rfl
  obtain ⟨h1, h2⟩ := ch_sum hg
  have h3 := hg.few
  refine ss_ret (d := .txt (chText x)) (s_is (d := .txt (joinL sp1 ([x.part, x.label, tEq] ++ x.items.map itext))) (s_m1 (d := .lst (([x.part, x.label, tEq] ++ x.items.map itext).map .txt)) s_str (s_is (d := .lst ([.txt x.part, .txt x.label, .txt tEq] ++ x.items.map fun i => .txt (itext i))) (s_op (a := .lst [.txt x.part, .txt x.label, .txt tEq]) (b := .lst (x.items.map fun i => .txt (itext i)))
    (s_lst (sa_cons (s_fldI (s_var rfl) kg.C.cl kg.Cp rfl) (sa_cons (s_fldI (s_var rfl) kg.C.cl kg.Cl rfl) (sa_cons s_str sa_nil))) (by show 3 ≤ sizeLine; decide))
    (s_ofN (sn_lcM (xs := x.items) (enc := iins c) (g := fun i => .txt (itext i)) (si_u (s_fldI (s_var rfl) kg.C.cl kg.Ct rfl) rfl) (by omega) fun i hi => s_itext (hg.i i hi) (s_var rfl))) (os_addL (by rw [List.length_map]; show 3 + _ ≤ _; omega))) (by rw [List.map_append, List.map_map]; rfl)) (ms_join ?_)) (by rw [sp1_eq]; rfl)) rfl
  show _ + _ * sp1.length ≤ _
  rw [sp1_eq]
  show _ + _ * 1 ≤ _
  omega
/-! joins -/
structure goodJ (x : Jn) : Prop where
  l : JnL x
  o : jnOk x = true
theorem goodJ.facts {x : Jn} (h : goodJ x) : isName x.part = true ∧ isName x.of = true ∧ x.br.length = 2 ∧ (∀ w ∈ x.br, isFixed w = true) ∧ x.lv.length ≤ 5 ∧ 1 ≤ x.lv.length ∧ (addLevels [] x.lv).isSome = true := by
  have z := h.o
  unfold jnOk at z
  simp only [Bool.and_eq_true, decide_eq_true_eq, List.all_eq_true] at z
  obtain ⟨⟨⟨⟨z1, z2⟩, z3, z4⟩, z5, z6⟩, z7⟩ := z
  exact ⟨z1, z2, z3, z4, z6, z5, z7⟩
theorem addLevels_ok : ∀ {lv : List (List Nat × List (List Nat))} {s : List Pr}, (addLevels s lv).isSome = true → ∀ y ∈ lv, lvOk y.1 y.2 = true
  | x :: r, s, h, y, hy => by
    unfold addLevels at h
    cases hk : lvOk x.1 x.2 with
    | false => rw [hk] at h; cases h
    | true =>
      rw [hk] at h
      rcases List.mem_cons.mp hy with z | z
      · rw [z]; exact hk
      · cases ha : addWords (placeOf x.1) s x.2 with
        | none => rw [ha] at h; cases h
        | some s' => rw [ha] at h; exact addLevels_ok h y z
theorem goodJ.lv {x : Jn} (h : goodJ x) : ∀ y ∈ x.lv, y.1 ∈ ways5 ∧ y.2.length ≤ 4 ∧ 1 ≤ y.2.length ∧ ∀ w ∈ y.2, isFixed w = true := fun y hy => by
  have z := addLevels_ok h.facts.2.2.2.2.2.2 y hy
  unfold lvOk at z
  simp only [Bool.and_eq_true, decide_eq_true_eq, List.all_eq_true] at z
  exact ⟨z.1.1, z.1.2.2, z.1.2.1, z.2⟩
def jnHead (x : Jn) : List Nat := joinL [32] ([x.part, tJoins, x.of, tIn] ++ x.br.map quot)
def lvRow (y : List Nat × List (List Nat)) : List Nat := joinL [32] ([y.1] ++ y.2.map quot)
def jnRows (x : Jn) : List (List Nat) := jnHead x :: x.lv.map lvRow
def jnText (x : Jn) : List Nat := joinL [10] (jnRows x)
theorem head_sum {x : Jn} (h : goodJ x) : (([x.part, tJoins, x.of, tIn] ++ x.br.map quot).map (·.length)).sum ≤ 4100 ∧ ([x.part, tJoins, x.of, tIn] ++ x.br.map quot).length = 6 := by
  have l1 := h.l.p
  have l2 := h.l.o
  have l3 := h.facts.2.2.1
  have h4 : ((x.br.map quot).map (·.length)).sum ≤ x.br.length * 1002 := sum_len_le quot 1002 x.br fun w hw => by rw [quot_len]; have := h.l.b.2 w hw; omega
  obtain ⟨_, b2, b3, _⟩ := tx_len
  constructor
  · rw [List.map_append, List.sum_append]
    show x.part.length + (tJoins.length + (x.of.length + (tIn.length + 0))) + _ ≤ _
    omega
  · rw [List.length_append, List.length_map, l3]
    rfl
theorem head_len {x : Jn} (h : goodJ x) : (jnHead x).length ≤ 4200 := by
  obtain ⟨h1, h2⟩ := head_sum h
  have h3 := joinL_sum [32] ([x.part, tJoins, x.of, tIn] ++ x.br.map quot)
  unfold jnHead
  simp only [List.length_cons, List.length_nil] at h3
  omega
theorem row_sum {x : Jn} (h : goodJ x) {y : List Nat × List (List Nat)} (hy : y ∈ x.lv) : (([y.1] ++ y.2.map quot).map (·.length)).sum ≤ 5100 ∧ ([y.1] ++ y.2.map quot).length ≤ 5 := by
  obtain ⟨a1, a2, _, _⟩ := h.lv y hy
  have l1 := (ways_okc y.1 a1).2
  have h4 : ((y.2.map quot).map (·.length)).sum ≤ y.2.length * 1002 := sum_len_le quot 1002 y.2 fun w hw => by rw [quot_len]; have := (h.l.l y hy).p w hw; omega
  constructor
  · rw [List.map_append, List.sum_append]
    show y.1.length + 0 + _ ≤ _
    omega
  · rw [List.length_append, List.length_map]
    show 1 + _ ≤ 5
    omega
theorem row_len {x : Jn} (h : goodJ x) {y : List Nat × List (List Nat)} (hy : y ∈ x.lv) : (lvRow y).length ≤ 5200 := by
  obtain ⟨h1, h2⟩ := row_sum h hy
  have h3 := joinL_sum [32] ([y.1] ++ y.2.map quot)
  unfold lvRow
  simp only [List.length_cons, List.length_nil] at h3
  omega
theorem rows_sum {x : Jn} (h : goodJ x) : ((jnRows x).map (·.length)).sum ≤ 31000 ∧ (jnRows x).length ≤ 6 := by
  have h1 := head_len h
  have h2 := h.facts.2.2.2.2.1
  have h4 : ((x.lv.map lvRow).map (·.length)).sum ≤ x.lv.length * 5200 := sum_len_le lvRow 5200 x.lv fun y hy => row_len h hy
  unfold jnRows
  constructor
  · rw [List.map_cons, List.sum_cons]
    omega
  · rw [List.length_cons, List.length_map]
    omega
theorem jnText_len {x : Jn} (h : goodJ x) : (jnText x).length ≤ 31100 := by
  obtain ⟨h1, h2⟩ := rows_sum h
  have h3 := joinL_sum [10] (jnRows x)
  unfold jnText
  simp only [List.length_cons, List.length_nil] at h3
  omega
theorem s_quots {K : PySem.W.Frag} {ρ : List Sl} {te : TE} {j : Nat} {q : Bool} {ws : List (List Nat)} (h : Sem K te ρ (sq q (ws.map .txt))) (hj : j < ρ.length) (hn : ws.length ≤ 1000) (hp : ∀ w ∈ ws, w.length ≤ 1000) :
    Sem K (tLc (iU K te) (gName j) tYes (tCall (spD K R_quoted) [] E0 (tCons (tVar j) tNil)) [j]) ρ (.lst (ws.map fun w => .txt (quot w))) := by
  have hS : sizeLine = 16777216 := rfl
  exact s_ofN (sn_lcM (xs := ws) (enc := .txt) (g := fun w => .txt (quot w)) (si_u h sq_items) (by omega) fun w hw => s_call (sa_cons (a := .txt w) (s_var (List.getElem?_set_self hj)) sa_nil) (r_quoted (by have := hp w hw; omega)))
def R_joins_text (g : Cg) (ds : List Dat) (d : Dat) : Prop := ∃ x, ds = [jnD g x] ∧ goodJ x ∧ d = .txt (jnText x)
theorem h_joins_text {K : PySem.W.Frag} {W : WX} {g : Cg} (kg : Kg K g) (ds : List Dat) (d : Dat) (h : R_joins_text g ds d) : SemS K W (T_joins_text K (spD K R_quoted)) (slots 5 ds) (PF d) := by
  obtain ⟨x, rfl, hg, rfl⟩ := h
  have hS : sizeLine = 16777216 := rfl
  obtain ⟨h1, h2⟩ := head_sum hg
  have hbr := hg.facts.2.2.1
  have hlv := hg.facts.2.2.2.2.1
  apply ss_seq
  refine ss_asgN (ds := [.txt (jnHead x)]) (sn_lst (sa_cons (s_is (d := .txt (joinL sp1 ([x.part, tJoins, x.of, tIn] ++ x.br.map quot))) (s_m1 (d := .lst (([x.part, tJoins, x.of, tIn] ++ x.br.map quot).map .txt)) s_str (s_is (d := .lst ([.txt x.part, .txt tJoins, .txt x.of, .txt tIn] ++ x.br.map fun i => .txt (quot i))) (s_op (a := .lst [.txt x.part, .txt tJoins, .txt x.of, .txt tIn]) (b := .lst (x.br.map fun i => .txt (quot i)))
    (s_lst (sa_cons (s_fldI (s_var rfl) kg.J.cl kg.Jp rfl) (sa_cons s_str (sa_cons (s_fldI (s_var rfl) kg.J.cl kg.Jo rfl) (sa_cons s_str sa_nil)))) (by show 4 ≤ sizeLine; decide))
    (s_quots (q := true) (s_fldI (s_var rfl) kg.J.cl kg.Jb rfl) (by show 4 < 5; decide) (by omega) hg.l.b.2) (os_addL (by rw [List.length_map]; show 4 + _ ≤ _; omega))) (by rw [List.map_append, List.map_map]; rfl)) (ms_join ?_)) (by rw [sp1_eq]; rfl)) sa_nil) (by show 1 ≤ sizeLine; decide)) ?_
  · show _ + _ * sp1.length ≤ _
    rw [sp1_eq]
    show _ + _ * 1 ≤ _
    omega
  apply ss_seq
  refine ss_for (ds := x.lv.map lvD) (si_u (s_fldI (s_var rfl) kg.J.cl kg.Jl rfl) rfl) (fun i ρ => ∃ s2 s3 s4, ρ = [.dat (jnD g x), .own ((jnHead x :: (x.lv.take i).map lvRow).map .txt), s2, s3, s4]) ⟨_, _, _, rfl⟩ ?_ ?_
  · rintro i d ρ1 hd ⟨s2, s3, s4, rfl⟩
    rw [List.getElem?_map] at hd
    obtain ⟨y, hy, rfl⟩ : ∃ y, x.lv[i]? = some y ∧ lvD y = d := by
      cases z : x.lv[i]? with
      | none => rw [z] at hd; cases hd
      | some y => rw [z] at hd; exact ⟨y, rfl, Option.some.inj hd⟩
    have hm := List.mem_of_getElem? hy
    obtain ⟨r1, r2⟩ := row_sum hg hm
    have ly := hg.l.l y hm
    have lw := (hg.lv y hm).2.1
    refine ⟨_, sg_tup (ds := [.txt y.1, .tup (y.2.map .txt)]) (sgs_cons sg_name (sgs_cons sg_name sgs_nil)) rfl, ?_⟩
    refine ss_app (d := .txt (lvRow y)) rfl (s_is (d := .txt (joinL sp1 ([y.1] ++ y.2.map quot))) (s_m1 (d := .lst (([y.1] ++ y.2.map quot).map .txt)) s_str (s_is (d := .lst ([.txt y.1] ++ y.2.map fun i => .txt (quot i))) (s_op (a := .lst [.txt y.1]) (b := .lst (y.2.map fun i => .txt (quot i)))
      (s_lst (sa_cons (s_var rfl) sa_nil) (by show 1 ≤ sizeLine; decide))
      (s_quots (q := true) (s_var rfl) (by show 4 < 5; decide) (by omega) ly.p) (os_addL (by rw [List.length_map]; show 1 + _ ≤ _; omega))) (by rw [List.map_append, List.map_map]; rfl)) (ms_join ?_)) (by rw [sp1_eq]; rfl)) (by rw [List.length_map, List.length_cons, List.length_map, List.length_take]; omega) ⟨.dat (.txt y.1), .dat (.tup (y.2.map .txt)), s4, ?_⟩
    · show _ + _ * sp1.length ≤ _
      rw [sp1_eq]
      show _ + _ * 1 ≤ _
      omega
    · have tk : x.lv.take (i + 1) = x.lv.take i ++ [y] := by rw [List.take_succ, hy]; rfl
      rw [tk]
      simp only [List.map_append, List.map_cons, List.map_nil, List.cons_append]
      rfl
  · rintro ρ1 ⟨s2, s3, s4, rfl⟩
    rw [List.length_map, List.take_length]
    obtain ⟨r1, r2⟩ := rows_sum hg
    refine ss_ret (d := .txt (jnText x)) (s_is (d := .txt (joinL nl1 (jnRows x))) (s_peekA rfl (s_m1 (d := .lst ((jnRows x).map .txt)) s_str (s_var rfl) (ms_join ?_))) (by rw [tx_len.2.2.2.1]; rfl)) rfl
    show _ + _ * nl1.length ≤ _
    rw [tx_len.2.2.2.1]
    show _ + _ * 1 ≤ _
    omega
/-! grammars -/
structure goodG (x : Gm) : Prop where
  l : GmL x
  o : gmOk x = true
  c : ∀ y ∈ x.cs, goodC y
  j : ∀ y ∈ x.js, goodJ y
theorem goodG.facts {x : Gm} (h : goodG x) : isName x.start = true ∧ x.cs.length ≤ 24 ∧ x.js.length ≤ 3 := by
  have z := h.o
  unfold gmOk at z
  simp only [Bool.and_eq_true, decide_eq_true_eq] at z
  exact ⟨z.1.1.1.1, z.1.1.1.2.2⟩
def gmRows (x : Gm) : List (List Nat) := (tStart ++ x.start) :: (x.cs.map chText ++ x.js.map jnText)
def gmText (x : Gm) : List Nat := ((gmRows x).map fun r => r ++ [10]).flatten
theorem gmRows_len {x : Gm} (h : goodG x) : (gmRows x).length ≤ 28 ∧ ∀ r ∈ gmRows x, r.length ≤ 31100 := by
  obtain ⟨_, f2, f3⟩ := h.facts
  unfold gmRows
  constructor
  · simp only [List.length_cons, List.length_append, List.length_map]
    omega
  · intro r hr
    have hs := h.l.s
    obtain ⟨_, _, _, _, b5⟩ := tx_len
    rcases List.mem_cons.mp hr with z | z
    · rw [z, List.length_append]; omega
    · rcases List.mem_append.mp z with z | z
      · obtain ⟨y, hy, rfl⟩ := List.mem_map.mp z
        have := chText_len (h.c y hy)
        omega
      · obtain ⟨y, hy, rfl⟩ := List.mem_map.mp z
        exact jnText_len (h.j y hy)
def R_written (c : Cs) (g : Cg) (ds : List Dat) (d : Dat) : Prop := ∃ x, ds = [gmD c g x] ∧ goodG x ∧ d = .txt (gmText x)
theorem h_written {K : PySem.W.Frag} {W : WX} {c : Cs} {g : Cg} (kg : Kg K g) (ds : List Dat) (d : Dat) (h : R_written c g ds d) : SemS K W (T_written K (spD K (R_choice_text c g)) (spD K (R_joins_text g))) (slots 5 ds) (PF d) := by
  obtain ⟨x, rfl, hg, rfl⟩ := h
  have hS : sizeLine = 16777216 := rfl
  obtain ⟨_, f2, f3⟩ := hg.facts
  have hs := hg.l.s
  obtain ⟨_, _, _, b4, b5⟩ := tx_len
  obtain ⟨g1, g2⟩ := gmRows_len hg
  apply ss_seq
  refine ss_asgN (ds := [.txt (tStart ++ x.start)]) (sn_lst (sa_cons (s_op s_str (s_fldI (s_var rfl) kg.G.cl kg.Gs rfl) (os_addT (by show tStart.length + _ ≤ _; omega))) sa_nil) (by show 1 ≤ sizeLine; decide)) ?_
  apply ss_seq
  refine ss_ext (es := x.cs.map fun y => .txt (chText y)) rfl (s_ofN (sn_lcM (xs := x.cs) (enc := chD c g) (g := fun y => .txt (chText y)) (si_u (s_fldI (s_var rfl) kg.G.cl kg.Gc rfl) rfl) (by omega) fun y hy => s_call (sa_cons (s_var rfl) sa_nil) ⟨y, rfl, hg.c y hy, rfl⟩)) (by rw [List.length_map]; show 1 + _ ≤ _; omega) ?_
  apply ss_seq
  refine ss_ext (es := x.js.map fun y => .txt (jnText y)) rfl (s_ofN (sn_lcM (xs := x.js) (enc := jnD g) (g := fun y => .txt (jnText y)) (si_u (s_fldI (s_var rfl) kg.G.cl kg.Gj rfl) rfl) (by omega) fun y hy => s_call (sa_cons (s_var rfl) sa_nil) ⟨y, rfl, hg.j y hy, rfl⟩)) (by rw [List.length_append, List.length_map, List.length_map]; show 1 + _ + _ ≤ _; omega) ?_
  have er : ([Dat.txt (tStart ++ x.start)] ++ x.cs.map fun y => .txt (chText y)) ++ (x.js.map fun y => .txt (jnText y)) = (gmRows x).map .txt := by
    unfold gmRows
    simp only [List.map_cons, List.map_append, List.map_map, List.cons_append, List.nil_append]
    rfl
  have ej : joinL emp ((gmRows x).map fun r => r ++ nl1) = gmText x := by
    rw [joinL_emp, b4]
    rfl
  refine ss_ret (d := .txt (gmText x)) (s_is (d := .txt (joinL emp ((gmRows x).map fun r => r ++ nl1))) (s_peekA rfl (s_m1 (d := .lst ((gmRows x).map fun r => .txt (r ++ nl1))) s_str (s_ofN (sn_lcM (xs := gmRows x) (enc := .txt) (g := fun r => .txt (r ++ nl1)) (si_u (s_is (s_var rfl) (by rw [er])) rfl) (by omega) fun r hr => s_op (s_var rfl) s_str (os_addT (by show _ + nl1.length ≤ _; rw [b4]; have := g2 r hr; show _ + 1 ≤ _; omega)))) (ms_joinM ?_))) (by rw [ej])) rfl
  have h5 : (((gmRows x).map fun r => r ++ nl1).map (·.length)).sum ≤ (gmRows x).length * 31101 := sum_len_le (fun r => r ++ nl1) 31101 (gmRows x) fun r hr => by
    have := g2 r hr
    rw [b4, List.length_append]
    show _ + 1 ≤ _
    omega
  show _ + _ * emp.length ≤ _
  rw [emp_nil]
  show _ + _ * 0 ≤ _
  omega

/-! ### what is drawn, by its properties -/
def labels10 : List (List Nat) := [(Str.ofString "one").cps.toList, (Str.ofString "two").cps.toList, (Str.ofString "add").cps.toList, (Str.ofString "more").cps.toList, (Str.ofString "top").cps.toList, (Str.ofString "none").cps.toList, (Str.ofString "join").cps.toList, (Str.ofString "a").cps.toList, (Str.ofString "up").cps.toList, (Str.ofString "longest").cps.toList]
def labelBy (c : Int) : List Nat := labels10.getD (c % 10).toNat []
def R__law_label_by (ds : List Dat) (d : Dat) : Prop := ∃ c, ds = [.int c] ∧ d = .txt (labelBy c)
theorem h__law_label_by {K : PySem.W.Frag} {W : WX} (ds : List Dat) (d : Dat) (h : R__law_label_by ds d) : SemS K W (T__law_label_by K) (slots 1 ds) (PF d) := by
  obtain ⟨c, rfl, rfl⟩ := h
  have hx : atI (labels10.map Dat.txt) (c % 10) = some (.txt (labelBy c)) := atI_mapD _ [] (by omega) (by show _ < (10 : Int); omega)
  refine ss_ret (s_op (a := .lst (labels10.map .txt)) (b := .int (c % 10)) ?_ ?_ (os_ixL hx)) rfl
  · walk_at "sem"
  · walk_at "sem"
theorem labels_name : ∀ t ∈ labels10, isName t = true ∧ t.length ≤ 8 := by decide +kernel
theorem labelBy_name (c : Int) : isName (labelBy c) = true ∧ (labelBy c).length ≤ 8 := labels_name _ (getD_inL (by show _ < 10; omega))
/-- joins, told -/
def lvT (x : List Nat × List (List Nat)) : Dat := .tup [.txt x.1, .lst (x.2.map .txt)]
def jnT (x : Jn) : Dat := .tup [.txt x.part, .txt x.of, .tup (x.br.map .txt), .lst (x.lv.map lvT)]
def chT (x : Chc) : Dat := .tup [.txt x.part, .txt x.label, .lst (x.items.map itold)]
def gmT (x : Gm) : Dat := .tup [.txt x.start, .lst (x.cs.map chT), .lst (x.js.map jnT)]
def D_joins_by (ds : List Dat) : Prop := ∃ ns k part, ds = [.scr ns, .int k, .txt part] ∧ ns.length ≤ 63 ∧ 0 ≤ k ∧ k ≤ 100000 ∧ isName part = true ∧ part.length ≤ 8
def R_joins_by (ds : List Dat) (d : Dat) : Prop := ∃ a k x, ds = [a, k, .txt x.part] ∧ goodJ x ∧ d = jnT x
theorem ways_place : ∀ r ∈ List.range 5, placeOf (ways5.getD r []) = (if r < 3 then tBetween else ways5.getD r []) ∧ ways5.getD r [] ∈ ways5 := by decide +kernel
theorem getElem_range {n i : Nat} {d : Dat} (h : ((List.range n).map fun k : Nat => Dat.int ((k : Nat) : Int))[i]? = some d) : d = .int (i : Int) ∧ i < n := by
  rw [List.getElem?_map] at h
  cases z : (List.range n)[i]? with
  | none => rw [z] at h; cases h
  | some j =>
    rw [z] at h
    obtain ⟨h1, h2⟩ := List.getElem?_eq_some_iff.mp z
    rw [List.getElem_range] at h2
    rw [List.length_range] at h1
    subst h2
    exact ⟨(Option.some.inj h).symm, h1⟩
theorem addWords_snoc {pl w : List Nat} {s s' : List Pr} {ws : List (List Nat)} (h : addWords pl s ws = some s') (hn : decide ((pl, w) ∈ s') = false) : addWords pl s (ws ++ [w]) = some (s' ++ [(pl, w)]) := by
  rw [addWords_app, h]
  show (if decide ((pl, w) ∈ s') = true then none else some (s' ++ [(pl, w)])) = _
  rw [hn]; rfl
theorem addLevels_snoc {y : List Nat × List (List Nat)} {s s' : List Pr} {lv : List (List Nat × List (List Nat))} (h : addLevels [] lv = some s) (hk : lvOk y.1 y.2 = true) (hw : addWords (placeOf y.1) s y.2 = some s') : addLevels [] (lv ++ [y]) = some s' := by
  rw [addLevels_app, h]
  show (if lvOk y.1 y.2 = true then (addWords (placeOf y.1) s y.2).bind fun s' => some s' else none) = _
  rw [hk, hw]; rfl
local macro_rules | `(tactic| walk_at "fn") => `(tactic| first
  | (apply r__law_cell; (· walk_at "side"); (· walk_at "side"); (· walk_at "side"))
  | (apply r__law_fixed_by; (· walk_at "side"); (· walk_at "side")))
theorem h__law_joins_by {K : PySem.W.Frag} {W : WX} (ds : List Dat) (h : D_joins_by ds) : SemS K W (T__law_joins_by K (spD K R__law_cell) (spD K R__law_fixed_by) (spD K R__law_part_by)) (slots 14 ds) (PY (R_joins_by ds)) := by
  obtain ⟨ns, k, part, rfl, hn, k0, k1, hp, hpl⟩ := h
  have hS : sizeLine = 16777216 := rfl
  have b1 := cellF_lo ns k
  have b2 := cellF_hi ns k
  apply ss_seq
  refine ss_asg (d := .int (cellF ns k)) (by walk_at "sem") ?_
  apply ss_seq
  refine ss_asgN (sn_lst sa_nil (by show 0 ≤ sizeLine; decide)) ?_
  apply ss_seq
  refine ss_asgN (sn_lst sa_nil (by show 0 ≤ sizeLine; decide)) ?_
  apply ss_seq
  refine ss_for (ds := (List.range (1 + cellF ns k % 5).toNat).map fun k : Nat => .int ((k : Nat) : Int)) (si_range1Z (by walk_at "sems") (by omega) (by omega))
    (fun i ρ => ∃ lv s s6 s7 s8 s9 s10 s11 s12 s13, ρ = [.dat (.scr ns), .dat (.int k), .dat (.txt part), .dat (.int (cellF ns k)), .own (s.map prD), .own (lv.map lvT), s6, s7, s8, s9, s10, s11, s12, s13] ∧ addLevels [] lv = some s ∧ lv.length ≤ i ∧ s.length ≤ 4 * i ∧ Prs s ∧ (∀ y ∈ lv, LvL y.1 y.2) ∧ (lv = [] → i = 0 ∧ s = []))
    ⟨[], [], _, _, _, _, _, _, _, _, rfl, rfl, Nat.le_refl _, Nat.le_refl _, (fun _ h => by cases h), (fun _ h => by cases h), fun _ => ⟨rfl, rfl⟩⟩ ?_ ?_
  · rintro i d ρ1 hd ⟨lv, s, s6, s7, s8, s9, s10, s11, s12, s13, rfl, ea, ln, ls, prs, ll, emp0⟩
    obtain ⟨rfl, hi⟩ := getElem_range hd
    have hi5 : i < 5 := by omega
    have c1 := cellF_lo ns (k + 100 + (i : Int))
    have c2 := cellF_hi ns (k + 100 + (i : Int))
    refine ⟨_, sg_name, ?_⟩
    apply ss_seq
    refine ss_asg (d := .int (cellF ns (k + 100 + (i : Int)))) (by walk_at "sem") ?_
    generalize hmix : cellF ns (k + 100 + (i : Int)) = mix at c1 c2 ⊢
    have hr : (mix % 5).toNat < 5 := by omega
    obtain ⟨pl, wy⟩ := ways_place _ (List.mem_range.mpr hr)
    apply ss_seq
    have hx : atI (ways5.map Dat.txt) (mix % 5) = some (.txt (ways5.getD (mix % 5).toNat [])) := atI_mapD _ [] (by omega) (by show _ < (5 : Int); omega)
    refine ss_asg (d := .txt (ways5.getD (mix % 5).toNat [])) (s_op (a := .lst (ways5.map .txt)) (b := .int (mix % 5)) (by walk_at "sem") (by walk_at "sem") (os_ixL hx)) ?_
    generalize hwy : ways5.getD (mix % 5).toNat [] = way at pl wy ⊢
    apply ss_seq
    refine ss_asgN (sn_lst sa_nil (by show 0 ≤ sizeLine; decide)) ?_
    apply ss_seq
    refine ss_for (ds := (List.range (1 + mix / 5 % 4).toNat).map fun k : Nat => .int ((k : Nat) : Int)) (si_range1Z (by walk_at "sems") (by omega) (by omega))
      (fun m ρ => ∃ ws s' s10 s11 s12, ρ = [.dat (.scr ns), .dat (.int k), .dat (.txt part), .dat (.int (cellF ns k)), .own (s'.map prD), .own (lv.map lvT), .dat (.int (i : Int)), .dat (.int mix), .dat (.txt way), .own (ws.map .txt), s10, s11, s12, s13] ∧ addWords (placeOf way) s ws = some s' ∧ ws.length ≤ m ∧ (∀ w ∈ ws, isFixed w = true ∧ w.length ≤ 8) ∧ Prs s' ∧ (ws = [] → s' = s ∧ (s = [] → m = 0)))
      ⟨[], s, _, _, _, rfl, rfl, Nat.le_refl _, (fun _ h => by cases h), prs, fun _ => ⟨rfl, fun _ => rfl⟩⟩ ?_ ?_
    · rintro m d ρ1 hd ⟨ws, s', s10, s11, s12, rfl, eb, lw, lf, prs', emp1⟩
      obtain ⟨rfl, hm⟩ := getElem_range hd
      have hm4 : m < 4 := by omega
      have d1 := cellF_lo ns (k + 200 + 10 * (i : Int) + (m : Int))
      have d2 := cellF_hi ns (k + 200 + 10 * (i : Int) + (m : Int))
      have fl := fixedBy_len (cellF ns (k + 200 + 10 * (i : Int) + (m : Int)))
      have ff := fixedBy_fixed (cellF ns (k + 200 + 10 * (i : Int) + (m : Int)))
      refine ⟨_, sg_name, ?_⟩
      apply ss_seq
      refine ss_asg (d := .txt (fixedBy (cellF ns (k + 200 + 10 * (i : Int) + (m : Int))))) (s_call (sa_cons (a := .int (cellF ns (k + 200 + 10 * (i : Int) + (m : Int)))) (s_call (sa_cons (a := .scr ns) (s_var rfl) (sa_cons (a := .int (k + 200 + 10 * (i : Int) + (m : Int))) ?_ sa_nil)) (r__law_cell hn (by omega) (by omega))) sa_nil) (r__law_fixed_by (by omega) (by omega))) ?_
      · exact s_op (a := .int (k + 200 + 10 * (i : Int))) (b := .int (m : Int)) (s_op (a := .int (k + 200)) (b := .int (10 * (i : Int))) (s_op (a := .int k) (b := .int 200) (s_var rfl) s_int os_addI) (s_op (a := .int 10) (b := .int (i : Int)) s_int (s_var rfl) (os_mul (by walk_at "mul"))) os_addI) (s_var rfl) os_addI
      generalize fixedBy (cellF ns (k + 200 + 10 * (i : Int) + (m : Int))) = w at fl ff ⊢
      have okw : Okc w := isFixed_okc ff
      have okp : Okc (placeOf way) := place_okc wy
      apply ss_seq
      have hx2 : atI [Dat.txt way, Dat.txt tBetween] (if decide (mix % 5 < 3) = true then 1 else 0) = some (.txt (placeOf way)) := by
        rw [pl]
        by_cases z : mix % 5 < 3
        · rw [decide_eq_true z, if_pos rfl, if_pos (by omega)]; rfl
        · rw [decide_eq_false z, if_neg (by simp), if_neg (by omega)]; rfl
      refine ss_asg (d := .txt (placeOf way)) (s_op (a := .lst [.txt way, .txt tBetween]) (b := .int (if decide (mix % 5 < 3) = true then 1 else 0)) (s_lst (sa_cons (s_var rfl) (sa_cons s_str sa_nil)) (by show 2 ≤ sizeLine; decide)) (s_cb (sa_cons (a := .bl (decide (mix % 5 < 3))) (s_op (a := .int (mix % 5)) (b := .int 3) (by walk_at "sem") s_int os_lt) sa_nil) cs_intB) (os_ixL hx2)) ?_
      have tp : ∀ ρ : List Sl, ρ[12]? = some (.dat (.txt (placeOf way))) → ρ[11]? = some (.dat (.txt w)) → Sem K (tTup (tCons (tVar 12) (tCons (tVar 11) tNil))) ρ (prD (placeOf way, w)) := fun ρ h1 h2 => s_tup (sa_cons (s_var h1) (sa_cons (s_var h2) sa_nil)) (by show 2 ≤ sizeLine; decide)
      refine ss_if (k := !decide ((placeOf way, w) ∈ s')) (st_peekA (st_test (s_op (a := prD (placeOf way, w)) (b := .lst (s'.map prD)) (tp _ rfl rfl) (s_var rfl) (os_notinK (n := 1) (m := 1) (good_pr okp okw) (good_map fun z hz => good_pr (prs' z hz).1 (prs' z hz).2) (by decide) (by decide) prD_mem)))) (fun z => ?_) (fun z => ?_)
      · have nin : decide ((placeOf way, w) ∈ s') = false := by simpa using z
        have ls' := addWords_len eb
        apply ss_seq
        refine ss_app (ds := s'.map prD) rfl (tp _ rfl rfl) (by rw [List.length_map]; omega) ?_
        refine ss_app (ds := ws.map .txt) rfl (s_var rfl) (by rw [List.length_map]; omega) ⟨ws ++ [w], s' ++ [(placeOf way, w)], _, _, _, by rw [List.map_append, List.map_append]; rfl, addWords_snoc eb nin, by rw [List.length_append]; simp only [List.length_cons, List.length_nil]; omega, fun v hv => ?_, fun v hv => ?_, fun z => ?_⟩
        · rcases List.mem_append.mp hv with y | y
          · exact lf v y
          · rw [List.mem_singleton.mp y]; exact ⟨ff, fl⟩
        · rcases List.mem_append.mp hv with y | y
          · exact prs' v y
          · rw [List.mem_singleton.mp y]; exact ⟨okp, okw⟩
        · exact absurd (congrArg List.length z) (by simp)
      · have nin : decide ((placeOf way, w) ∈ s') = true := by simpa using z
        refine ss_next ⟨ws, s', _, _, _, rfl, eb, by omega, lf, prs', fun z => ?_⟩
        obtain ⟨e1, _⟩ := emp1 z
        refine ⟨e1, fun e2 => ?_⟩
        rw [e1, e2] at nin
        exact absurd (of_decide_eq_true nin) (by simp)
    · rintro ρ1 ⟨ws, s', s10, s11, s12, rfl, eb, lw, lf, prs', emp1⟩
      rw [List.length_map, List.length_range] at lw emp1
      have ls' := addWords_len eb
      refine ss_freeze 9 (ds := ws.map .txt) rfl ?_
      refine ss_if (k := !(ws.map Dat.txt).isEmpty) (st_test (s_op (a := .lst (ws.map .txt)) (b := .lst []) (s_var rfl) (s_lst sa_nil (by show 0 ≤ sizeLine; decide)) os_neNil)) (fun z => ?_) (fun z => ?_)
      · have ne : ws ≠ [] := fun e => by rw [e] at z; cases z
        have wpos : 1 ≤ ws.length := List.length_pos_iff.mpr ne
        have hk : lvOk way ws = true := by
          unfold lvOk
          rw [decide_eq_true wy, decide_eq_true wpos, decide_eq_true (by omega), List.all_eq_true.mpr fun w hw => (lf w hw).1]
          rfl
        refine ss_app (ds := lv.map lvT) rfl (s_tup (sa_cons (a := .txt way) (s_var rfl) (sa_cons (a := .lst (ws.map .txt)) (s_var rfl) sa_nil)) (by show 2 ≤ sizeLine; decide)) (by rw [List.length_map]; omega) ⟨lv ++ [(way, ws)], s', _, _, _, _, _, _, _, _, by rw [List.map_append]; rfl, addLevels_snoc ea hk eb, by rw [List.length_append]; simp only [List.length_cons, List.length_nil]; omega, by omega, prs', fun y hy => ?_, fun z => absurd (congrArg List.length z) (by simp)⟩
        rcases List.mem_append.mp hy with y' | y'
        · exact ll y y'
        · rw [List.mem_singleton.mp y']
          exact ⟨by show ws.length ≤ 1000; omega, fun w hw => by have := (lf w hw).2; omega⟩
      · have ew : ws = [] := by
          cases ws with
          | nil => rfl
          | cons a r => cases z
        obtain ⟨e1, e2⟩ := emp1 ew
        refine ss_next ⟨lv, s, _, _, _, _, _, _, _, _, by rw [← e1]; rfl, ea, by omega, by omega, prs, ll, fun z => ?_⟩
        obtain ⟨_, z2⟩ := emp0 z
        have := e2 z2
        omega
  · rintro ρ1 ⟨lv, s, s6, s7, s8, s9, s10, s11, s12, s13, rfl, ea, ln, ls, prs, ll, emp0⟩
    rw [List.length_map, List.length_range] at ln emp0
    have e300 := cellF_lo ns (k + 300)
    have f300 := cellF_hi ns (k + 300)
    have e301 := cellF_lo ns (k + 301)
    have f301 := cellF_hi ns (k + 301)
    refine ss_freeze 5 (ds := lv.map lvT) rfl ?_
    apply ss_seq
    refine ss_asg (d := .tup [.txt (fixedBy (cellF ns (k + 300))), .txt (fixedBy (cellF ns (k + 301)))]) (by walk_at "sem") ?_
    have hpb := partBy_name (cellF ns k / 5)
    refine ss_ret (d := jnT ⟨part, partBy (cellF ns k / 5), [fixedBy (cellF ns (k + 300)), fixedBy (cellF ns (k + 301))], lv⟩) (s_tup (sa_cons (a := .txt part) (s_var rfl) (sa_cons (a := .txt (partBy (cellF ns k / 5))) (s_call (sa_cons (a := .int (cellF ns k / 5)) (by walk_at "sem") sa_nil) ⟨_, rfl, rfl⟩) (sa_cons (s_var rfl) (sa_cons (a := .lst (lv.map lvT)) (s_var rfl) sa_nil)))) (by show 4 ≤ sizeLine; decide)) ⟨.scr ns, .int k, ⟨part, partBy (cellF ns k / 5), [fixedBy (cellF ns (k + 300)), fixedBy (cellF ns (k + 301))], lv⟩, rfl, ⟨⟨by show part.length ≤ 1000; omega, by show (partBy _).length ≤ 1000; omega, ⟨by show 2 ≤ 1000; decide, fun w hw => ?_⟩, by show lv.length ≤ 1000; omega, ll⟩, ?_⟩, rfl⟩
    · rcases List.mem_cons.mp hw with z | z
      · rw [z]; have := fixedBy_len (cellF ns (k + 300)); omega
      · rw [List.mem_singleton.mp z]; have := fixedBy_len (cellF ns (k + 301)); omega
    · have lne : lv ≠ [] := fun z => by have := (emp0 z).1; omega
      have lp : 1 ≤ lv.length := List.length_pos_iff.mpr lne
      unfold jnOk
      show (isName part && isName (partBy (cellF ns k / 5)) && (decide (2 = 2) && (isFixed (fixedBy (cellF ns (k + 300))) && (isFixed (fixedBy (cellF ns (k + 301))) && true))) && (decide (1 ≤ lv.length) && decide (lv.length ≤ 5)) && (addLevels [] lv).isSome) = true
      rw [hp, hpb.1, fixedBy_fixed, fixedBy_fixed, decide_eq_true lp, decide_eq_true (by omega : lv.length ≤ 5), ea]
      rfl

/-! ### grammars drawn -/
def R__law_size (ds : List Dat) (d : Dat) : Prop := ∃ i, ds = [itold i] ∧ d = .int ((sizeI i : Nat) : Int)
theorem h__law_size {K : PySem.W.Frag} {W : WX} (ds : List Dat) (d : Dat) (h : R__law_size ds d) : SemS K W (T__law_size K) (slots 1 ds) (PF d) := by
  obtain ⟨i, rfl, rfl⟩ := h
  obtain ⟨g1, g2, g3, g4, g5, g6, g7, g8⟩ := tags
  have tst : ∀ (t : List Nat) (r : List Dat), SemT K (tTest (tOp (uIn K) (tOp (rIx K) (tVar 0) (tC (.int 0))) (tTup (tCons (tC (.str (Str.ofString "maybe"))) (tCons (tC (.str (Str.ofString "again"))) tNil))))) [.dat (.tup (.txt t :: r))] (decide (t ∈ [tMaybe, tAgain])) := fun t r =>
    st_test (s_op (a := .txt t) (b := .tup [.txt tMaybe, .txt tAgain]) (s_op (a := .tup (.txt t :: r)) (b := .int 0) (s_var rfl) s_int (os_ixU (at0 _ _))) (s_tup (sa_cons s_str (sa_cons s_str sa_nil)) (by show 2 ≤ sizeLine; decide)) os_in2)
  have big : ∀ (t : List Nat) (l : List PIt) (r : List Dat) (P : Post), P.rt (.int ((1 + l.length : Nat) : Int)) → SemS K W (tRet (tOp (uAdd K) (tC (.int 1)) (tCB (uLen K) (tCons (tOp (rIx K) (tVar 0) (tC (.int 1))) tNil)))) [.dat (.tup (.txt t :: .tup (l.map ptold) :: r))] P := fun t l r P hP => by
    have hc := cs_lenU (K := K) (cs := l.map ptold)
    rw [List.length_map] at hc
    exact ss_ret (s_is (s_op s_int (s_cb (sa_cons (s_at1 rfl) sa_nil) hc) os_addI) (by rw [Int.natCast_add]; rfl)) hP
  apply ss_seq
  cases i with
  | pl p =>
    cases p with
    | part n =>
      refine ss_if (tst tPart _) (fun z => ?_) (fun _ => ?_)
      · have z := of_decide_eq_true z
        rcases List.mem_cons.mp z with z | z
        · exact absurd z.symm g2
        · exact absurd (List.mem_singleton.mp z).symm g4
      · exact ss_next (ss_ret s_int rfl)
    | word n =>
      refine ss_if (tst tWord _) (fun z => ?_) (fun _ => ?_)
      · have z := of_decide_eq_true z
        rcases List.mem_cons.mp z with z | z
        · exact absurd z.symm g3
        · exact absurd (List.mem_singleton.mp z).symm g5
      · exact ss_next (ss_ret s_int rfl)
  | maybe l => exact ss_if (tst tMaybe _) (fun _ => big tMaybe l [] _ rfl) (fun z => by rw [decide_eq_true (List.mem_cons_self)] at z; cases z)
  | again l b => exact ss_if (tst tAgain _) (fun _ => big tAgain l [betD b] _ rfl) (fun z => by rw [decide_eq_true (.tail _ List.mem_cons_self)] at z; cases z)
def parts6 : List (List Nat) := [(Str.ofString "a").cps.toList, (Str.ofString "b").cps.toList, (Str.ofString "c").cps.toList, (Str.ofString "expr").cps.toList, (Str.ofString "abcdefgh").cps.toList, (Str.ofString "stmt").cps.toList]
def tTerm : List Nat := (Str.ofString "term").cps.toList
def tList : List Nat := (Str.ofString "list").cps.toList
theorem parts6_name : ∀ t ∈ parts6, isName t = true ∧ t.length ≤ 8 ∧ t ≠ tTerm ∧ t ≠ tList := by decide +kernel
theorem terms_name : isName tTerm = true ∧ tTerm.length ≤ 8 ∧ isName tList = true ∧ tList.length ≤ 8 ∧ tTerm ≠ tList := by decide +kernel
structure Drawn (most : Nat) (x : Gm) : Prop where
  n : x.cs.length ≤ most
  p : 1 ≤ x.cs.length
  j : x.js.length ≤ 2
  q : ∀ y ∈ x.cs, y.part ∈ parts6
  t : joined x = [] ∨ joined x = [tTerm] ∨ joined x = [tTerm, tList]
def D_grammar_by (ds : List Dat) : Prop := ∃ ns first most, ds = [.scr ns, .int first, .int most] ∧ ns.length ≤ 63 ∧ 0 ≤ first ∧ first ≤ 10000 ∧ 1 ≤ most ∧ most ≤ 16
def R_grammar_by (ds : List Dat) (d : Dat) : Prop := ∃ a b most x, ds = [a, b, .int most] ∧ goodG x ∧ Drawn most.toNat x ∧ d = gmT x
theorem cut_terms (r : Int) (h0 : 0 ≤ r) (h1 : r < 3) : ∃ jl : List (List Nat), cutL [Dat.txt tTerm, Dat.txt tList] none (some r) = jl.map .txt ∧ (jl = [] ∨ jl = [tTerm] ∨ jl = [tTerm, tList]) := by
  have : r = 0 ∨ r = 1 ∨ r = 2 := by omega
  rcases this with rfl | rfl | rfl
  · exact ⟨[], rfl, .inl rfl⟩
  · exact ⟨[tTerm], rfl, .inr (.inl rfl)⟩
  · exact ⟨[tTerm, tList], rfl, .inr (.inr rfl)⟩
local macro_rules | `(tactic| walk_at "fn") => `(tactic| first
  | (apply r__law_cell; (· walk_at "side"); (· walk_at "side"); (· walk_at "side")))
def lab (x : Chc) : Pr := (x.part, x.label)
theorem good_labs {cs : List Chc} (h : ∀ y ∈ cs, goodC y) : ∀ d ∈ (cs.map lab).map prD, goodD 1 d := good_map fun z hz => by
  obtain ⟨y, hy, rfl⟩ := List.mem_map.mp hz
  have o := (h y hy).o
  unfold chOk at o
  rw [Bool.and_eq_true, Bool.and_eq_true] at o
  exact good_pr (isName_okc o.1.1) (isName_okc o.1.2)
set_option maxHeartbeats 1000000 in
theorem h__law_grammar_by {K : PySem.W.Frag} {W : WX} (ds : List Dat) (h : D_grammar_by ds) : SemS K W (T__law_grammar_by K (spD K R__law_cell) (spD K R__law_label_by) (spD K R__law_item_by) (spD K R__law_size) (spN K D_joins_by (valR R_joins_by)) (spD K R__law_part_by)) (slots 15 ds) (PY (R_grammar_by ds)) := by
  obtain ⟨ns, first, most, rfl, hn, f0, f1, m0, m1⟩ := h
  have hS : sizeLine = 16777216 := rfl
  have b1 := cellF_lo ns first
  have b2 := cellF_hi ns first
  have b3 := cellF_lo ns (first + 1)
  have b4 := cellF_hi ns (first + 1)
  have mb : 0 ≤ cellF ns (first + 1) % most ∧ cellF ns (first + 1) % most < most := ⟨Int.emod_nonneg _ (by omega), Int.emod_lt_of_pos _ (by omega)⟩
  apply ss_seq
  refine ss_asgN (sn_lst sa_nil (by show 0 ≤ sizeLine; decide)) ?_
  apply ss_seq
  refine ss_asgN (sn_lst sa_nil (by show 0 ≤ sizeLine; decide)) ?_
  obtain ⟨jl, ejl, hjl⟩ := cut_terms (cellF ns first % 3) (by omega) (by omega)
  apply ss_seq
  refine ss_asg (d := .lst (jl.map .txt)) (s_is (s_sl (a := .lst [.txt tTerm, .txt tList]) (lo := none) (hi := some (cellF ns first % 3)) (s_lst (sa_cons s_str (sa_cons s_str sa_nil)) (by show 2 ≤ sizeLine; decide)) so_none (so_some (by walk_at "sem")) ss_lst) (by rw [ejl])) ?_
  apply ss_seq
  refine ss_for (ds := (List.range (1 + cellF ns (first + 1) % most).toNat).map fun k : Nat => .int ((k : Nat) : Int)) (si_range1Z (by walk_at "sems") (by omega) (by omega))
    (fun i ρ => ∃ cs s6 s7 s8 s9 s10 s11 s12 s13 s14, ρ = [.dat (.scr ns), .dat (.int first), .dat (.int most), .own (cs.map chT), .own ((cs.map lab).map prD), .dat (.lst (jl.map .txt)), s6, s7, s8, s9, s10, s11, s12, s13, s14] ∧ cs.length ≤ i ∧ (∀ y ∈ cs, goodC y ∧ y.part ∈ parts6) ∧ (cs.map lab).Nodup ∧ (cs = [] → i = 0))
    ⟨[], _, _, _, _, _, _, _, _, _, rfl, Nat.le_refl _, (fun _ h => by cases h), List.nodup_nil, fun _ => rfl⟩ ?_ ?_
  · rintro i d ρ1 hd ⟨cs, s6, s7, s8, s9, s10, s11, s12, s13, s14, rfl, lc, gc, nd, emp0⟩
    obtain ⟨rfl, hi⟩ := getElem_range hd
    have hi16 : i < 16 := by omega
    refine ⟨_, sg_name, ?_⟩
    apply ss_seq
    refine ss_asg (d := .int (cellF ns (first + 10 + (i : Int)))) (by walk_at "sem") ?_
    have c1 := cellF_lo ns (first + 10 + (i : Int))
    have c2 := cellF_hi ns (first + 10 + (i : Int))
    generalize cellF ns (first + 10 + (i : Int)) = more at c1 c2 ⊢
    have hx : atI (parts6.map Dat.txt) (more % 6) = some (.txt (parts6.getD (more % 6).toNat [])) := atI_mapD _ [] (by omega) (by show _ < (6 : Int); omega)
    have hpin : parts6.getD (more % 6).toNat [] ∈ parts6 := getD_inL (by show _ < 6; omega)
    apply ss_seq
    refine ss_asg (d := .txt (parts6.getD (more % 6).toNat [])) (s_op (a := .lst (parts6.map .txt)) (b := .int (more % 6)) (by walk_at "sem") (by walk_at "sem") (os_ixL hx)) ?_
    generalize parts6.getD (more % 6).toNat [] = part at hpin ⊢
    obtain ⟨pn1, pn2, pn3, pn4⟩ := parts6_name part hpin
    apply ss_seq
    refine ss_asg (d := .txt (labelBy (more / 6))) (s_call (sa_cons (a := .int (more / 6)) (by walk_at "sem") sa_nil) ⟨_, rfl, rfl⟩) ?_
    obtain ⟨ln1, ln2⟩ := labelBy_name (more / 6)
    generalize labelBy (more / 6) = label at ln1 ln2 ⊢
    apply ss_seq
    refine ss_asgN (sn_lst sa_nil (by show 0 ≤ sizeLine; decide)) ?_
    apply ss_seq
    refine ss_for (ds := (List.range (more / 60 % 5).toNat).map fun k : Nat => .int ((k : Nat) : Int)) (si_range1Z (by walk_at "sems") (by omega) (by omega))
      (fun m ρ => ∃ its s11 s12, ρ = [.dat (.scr ns), .dat (.int first), .dat (.int most), .own (cs.map chT), .own ((cs.map lab).map prD), .dat (.lst (jl.map .txt)), .dat (.int (i : Int)), .dat (.int more), .dat (.txt part), .dat (.txt label), .own (its.map itold), s11, s12, s13, s14] ∧ its.length ≤ m ∧ (∀ y ∈ its, goodI y) ∧ sizeAll its ≤ 8)
      ⟨[], _, _, rfl, Nat.le_refl _, (fun _ h => by cases h), Nat.zero_le _⟩ ?_ ?_
    · rintro m d ρ1 hd ⟨its, s11, s12, rfl, li, gi, sz⟩
      obtain ⟨rfl, hm⟩ := getElem_range hd
      have hm5 : m < 5 := by omega
      refine ⟨_, sg_name, ?_⟩
      apply ss_seq
      refine ss_asg (d := itold (itemBy ns (first + 100 + 10 * (i : Int) + (m : Int)))) (s_call (sa_cons (a := .scr ns) (s_var rfl) (sa_cons (a := .int (first + 100 + 10 * (i : Int) + (m : Int))) ?_ sa_nil)) ⟨ns, _, rfl, hn, by omega, by omega, rfl⟩) ?_
      · exact s_op (a := .int (first + 100 + 10 * (i : Int))) (b := .int (m : Int)) (s_op (a := .int (first + 100)) (b := .int (10 * (i : Int))) (s_op (a := .int first) (b := .int 100) (s_var rfl) s_int os_addI) (s_op (a := .int 10) (b := .int (i : Int)) s_int (s_var rfl) (os_mul (by walk_at "mul"))) os_addI) (s_var rfl) os_addI
      have ig := itemBy_good ns (first + 100 + 10 * (i : Int) + (m : Int))
      generalize itemBy ns (first + 100 + 10 * (i : Int) + (m : Int)) = it at ig ⊢
      refine ss_if (k := decide (((sizeAll (its ++ [it]) : Nat) : Int) ≤ 8)) (st_peekA (st_test (s_op (a := .int ((sizeAll (its ++ [it]) : Nat) : Int)) (b := .int 8) (s_is (d := .int ((its ++ [it]).map fun i => ((sizeI i : Nat) : Int)).sum) (s_cb (sa_cons (a := .lst (((its ++ [it]).map fun i => ((sizeI i : Nat) : Int)).map .int)) (s_is (s_ofN (sn_lcM (xs := its ++ [it]) (enc := itold) (g := fun i => .int ((sizeI i : Nat) : Int)) (si_u (d := .lst ((its ++ [it]).map itold)) (s_is (s_op (a := .lst (its.map itold)) (b := .lst [itold it]) (s_var rfl) (s_lst (sa_cons (s_var rfl) sa_nil) (by show 1 ≤ sizeLine; decide)) (os_addL (by rw [List.length_map]; show _ + 1 ≤ _; omega))) (by rw [List.map_append]; rfl)) rfl) (by rw [List.length_append]; show _ + 1 ≤ _; omega) fun y _ => s_call (sa_cons (s_var rfl) sa_nil) ⟨y, rfl, rfl⟩)) (by rw [List.map_map]; rfl)) sa_nil) cs_sum) (by rw [sum_cast])) s_int os_le))) (fun z => ?_) (fun z => ?_)
      · have sz2 : sizeAll (its ++ [it]) ≤ 8 := by have := of_decide_eq_true z; omega
        refine ss_app (ds := its.map itold) rfl (s_var rfl) (by rw [List.length_map]; omega) ⟨its ++ [it], _, _, by rw [List.map_append]; rfl, by rw [List.length_append]; show _ + 1 ≤ _; omega, fun y hy => ?_, sz2⟩
        rcases List.mem_append.mp hy with y' | y'
        · exact gi y y'
        · rw [List.mem_singleton.mp y']; exact ig
      · exact ss_next ⟨its, _, _, rfl, by omega, gi, sz⟩
    · rintro ρ1 ⟨its, s11, s12, rfl, li, gi, sz⟩
      rw [List.length_map, List.length_range] at li
      refine ss_freeze 10 (ds := its.map itold) rfl ?_
      have gx : goodC ⟨part, label, its⟩ := ⟨⟨by show part.length ≤ 1000; omega, by show label.length ≤ 1000; omega, by show its.length ≤ 1000; omega⟩, by unfold chOk; show (isName part && isName label && decide (sizeAll its ≤ 8)) = true; rw [pn1, ln1, decide_eq_true sz]; rfl, gi⟩
      have tp : ∀ ρ : List Sl, ρ[8]? = some (.dat (.txt part)) → ρ[9]? = some (.dat (.txt label)) → Sem K (tTup (tCons (tVar 8) (tCons (tVar 9) tNil))) ρ (prD (part, label)) := fun ρ h1 h2 => s_tup (sa_cons (s_var h1) (sa_cons (s_var h2) sa_nil)) (by show 2 ≤ sizeLine; decide)
      refine ss_if (k := !decide ((part, label) ∈ cs.map lab)) (st_peekA (st_test (s_op (a := prD (part, label)) (b := .lst ((cs.map lab).map prD)) (tp _ rfl rfl) (s_var rfl) (os_notinK (n := 1) (m := 1) (good_pr (isName_okc pn1) (isName_okc ln1)) (good_labs fun y hy => (gc y hy).1) (by decide) (by decide) prD_mem)))) (fun z => ?_) (fun z => ?_)
      · have nin : (part, label) ∉ cs.map lab := fun y => by rw [decide_eq_true y] at z; cases z
        apply ss_seq
        refine ss_app (ds := (cs.map lab).map prD) rfl (tp _ rfl rfl) (by rw [List.length_map, List.length_map]; omega) ?_
        refine ss_app (ds := cs.map chT) rfl (s_tup (sa_cons (a := .txt part) (s_var rfl) (sa_cons (a := .txt label) (s_var rfl) (sa_cons (a := .lst (its.map itold)) (s_var rfl) sa_nil))) (by show 3 ≤ sizeLine; decide)) (by rw [List.length_map]; omega) ⟨cs ++ [⟨part, label, its⟩], _, _, _, _, _, _, _, _, _, by rw [List.map_append, List.map_append, List.map_append]; rfl, by rw [List.length_append]; show _ + 1 ≤ _; omega, fun y hy => ?_, ?_, fun e => absurd (congrArg List.length e) (by simp)⟩
        · rcases List.mem_append.mp hy with y' | y'
          · exact gc y y'
          · rw [List.mem_singleton.mp y']; exact ⟨gx, hpin⟩
        · rw [List.map_append]
          refine List.nodup_append.mpr ⟨nd, List.nodup_cons.mpr ⟨(by simp), List.nodup_nil⟩, fun a ha b hb e => ?_⟩
          rw [List.map_cons, List.map_nil, List.mem_singleton] at hb
          rw [e, hb] at ha
          exact nin ha
      · refine ss_next ⟨cs, _, _, _, _, _, _, _, _, _, rfl, by omega, gc, nd, fun e => ?_⟩
        rw [e] at z
        cases z
  · rintro ρ1 ⟨cs, s6, s7, s8, s9, s10, s11, s12, s13, s14, rfl, lc, gc, nd, emp0⟩
    rw [List.length_map, List.length_range] at lc emp0
    refine ss_freeze 3 (ds := cs.map chT) rfl ?_
    have jln : jl.length ≤ 2 := by rcases hjl with e | e | e <;> rw [e] <;> decide
    have jnm : ∀ t ∈ jl, isName t = true ∧ t.length ≤ 8 := fun t ht => by
      obtain ⟨t1, t2, t3, t4, _⟩ := terms_name
      rcases hjl with e | e | e
      · rw [e] at ht; cases ht
      · rw [e] at ht; rw [List.mem_singleton.mp ht]; exact ⟨t1, t2⟩
      · rw [e] at ht
        rcases List.mem_cons.mp ht with z | z
        · rw [z]; exact ⟨t1, t2⟩
        · rw [List.mem_singleton.mp z]; exact ⟨t3, t4⟩
    apply ss_seq
    refine ss_asgE (S := fun d ρ' => ∃ js : List Jn, d = .lst (js.map jnT) ∧ js.map (·.part) = jl ∧ (∀ y ∈ js, goodJ y) ∧ ρ' = [.dat (.scr ns), .dat (.int first), .dat (.int most), .dat (.lst (cs.map chT)), .own ((cs.map lab).map prD), .dat (.lst (jl.map .txt)), .no, s7, s8, s9, s10, s11, s12, s13, s14]) (X := noX)
      (se_lc (enc := fun j : Nat => .int (j : Int)) (xs := List.range jl.length) ?_ (by rw [List.length_range]; omega) (fun i acc ρ' => ∃ js : List Jn, acc = js.map jnT ∧ js.map (·.part) = jl.take i ∧ (∀ y ∈ js, goodJ y) ∧ ρ' = [.dat (.scr ns), .dat (.int first), .dat (.int most), .dat (.lst (cs.map chT)), .own ((cs.map lab).map prD), .dat (.lst (jl.map .txt)), .no, s7, s8, s9, s10, s11, s12, s13, s14]) ⟨[], rfl, rfl, (fun _ h => by cases h), rfl⟩ ?_ ?_) ?_ (fun _ _ _ z => z.elim)
    · have hc := cs_lenL (K := K) (cs := jl.map .txt)
      rw [List.length_map] at hc
      exact si_range1 (n := jl.length) (sa_cons (s_cb (sa_cons (s_var rfl) sa_nil) hc) sa_nil) (by omega)
    · rintro i x acc ρ' hx la ⟨js, rfl, ep, gj, rfl⟩
      have hil : i < jl.length ∧ x = i := by
        obtain ⟨h1, h2⟩ := List.getElem?_eq_some_iff.mp hx
        rw [List.getElem_range] at h2
        rw [List.length_range] at h1
        exact ⟨h1, h2.symm⟩
      obtain ⟨hil, rfl⟩ := hil
      have hi2 : x < 2 := by omega
      have hj : atI (jl.map Dat.txt) (x : Int) = some (.txt (jl[x])) := by
        have := atI_mapD Dat.txt (xs := jl) (i := (x : Int)) [] (by omega) (by omega)
        rw [this]
        rw [Int.toNat_natCast, List.getD_eq_getElem?_getD, List.getElem?_eq_getElem hil]
        rfl
      obtain ⟨q1, q2⟩ := jnm jl[x] (List.getElem_mem hil)
      refine ⟨_, sgv_name (by decide), set_of st_yes ⟨fun _ => ?_, fun z => by cases z⟩⟩
      refine se_callN (sea_of (ds := [.scr ns, .int (first + 500 + 400 * (x : Int)), .txt jl[x]]) (sa_cons (s_var rfl) (sa_cons (s_op (a := .int (first + 500)) (b := .int (400 * (x : Int))) (s_op (a := .int first) (b := .int 500) (s_var rfl) s_int os_addI) (s_op (a := .int 400) (b := .int (x : Int)) s_int (s_var rfl) (os_mul (by walk_at "mul"))) os_addI) (sa_cons (s_op (a := .lst (jl.map .txt)) (b := .int (x : Int)) (s_var rfl) (s_var rfl) (os_ixL hj)) sa_nil))) ⟨⟨ns, _, _, rfl, hn, by omega, by omega, q1, q2⟩, ?_⟩)
      rintro o ⟨d, rfl, a, k, y, ey, gy, rfl⟩
      refine ⟨_, rfl, js ++ [y], by rw [List.map_append]; rfl, ?_, fun z hz => ?_, rfl⟩
      · have e3 : y.part = jl[x] := by
          rw [List.cons.injEq, List.cons.injEq, List.cons.injEq] at ey
          have := ey.2.2.1
          injection this with this
          exact this.symm
        rw [List.map_append, ep, List.take_succ, List.getElem?_eq_getElem hil]
        show _ ++ [y.part] = _ ++ [jl[x]]
        rw [e3]
      · rcases List.mem_append.mp hz with z' | z'
        · exact gj z z'
        · rw [List.mem_singleton.mp z']; exact gy
    · rintro acc ρ' ⟨js, rfl, ep, gj, rfl⟩
      rw [List.length_range, List.take_length] at ep
      exact ⟨js, rfl, ep, gj, rfl⟩
    · rintro d ρ' ⟨js, rfl, ep, gj, rfl⟩
      refine ⟨_, sg_name, ?_⟩
      have hpb := partBy_name (cellF ns (first + 2))
      have lj : js.length = jl.length := by rw [← ep, List.length_map]
      have ne : cs ≠ [] := fun e => by have := emp0 e; omega
      have lp : 1 ≤ cs.length := List.length_pos_iff.mpr ne
      have lab_eq : labs ⟨partBy (cellF ns (first + 2)), cs, js⟩ = cs.map lab := rfl
      have jn_eq : joined ⟨partBy (cellF ns (first + 2)), cs, js⟩ = jl := ep
      obtain ⟨t1, t2, t3, t4, t5⟩ := terms_name
      have jnd : jl.Nodup := by
        rcases hjl with e | e | e <;> rw [e]
        · exact List.nodup_nil
        · exact List.nodup_cons.mpr ⟨(by simp), List.nodup_nil⟩
        · exact List.nodup_cons.mpr ⟨(by simpa using t5), List.nodup_cons.mpr ⟨(by simp), List.nodup_nil⟩⟩
      refine ss_ret (d := gmT ⟨partBy (cellF ns (first + 2)), cs, js⟩) (s_tup (sa_cons (a := .txt (partBy (cellF ns (first + 2)))) (s_call (sa_cons (a := .int (cellF ns (first + 2))) (by walk_at "sem") sa_nil) ⟨_, rfl, rfl⟩) (sa_cons (a := .lst (cs.map chT)) (s_var rfl) (sa_cons (a := .lst (js.map jnT)) (s_var rfl) sa_nil))) (by show 3 ≤ sizeLine; decide)) ⟨.scr ns, .int first, most, ⟨partBy (cellF ns (first + 2)), cs, js⟩, rfl, ⟨⟨by show (partBy _).length ≤ 1000; omega, by show cs.length ≤ 1000; omega, by show js.length ≤ 1000; omega⟩, ?_, fun y hy => (gc y hy).1, gj⟩, ⟨by show cs.length ≤ most.toNat; omega, lp, by show js.length ≤ 2; omega, fun y hy => (gc y hy).2, by rw [jn_eq]; exact hjl⟩, rfl⟩
      unfold gmOk
      rw [lab_eq, jn_eq]
      show (isName (partBy (cellF ns (first + 2))) && (decide (1 ≤ cs.length + js.length) && (decide (cs.length ≤ 24) && decide (js.length ≤ 3))) && decide ((ded (cs.map lab)).length = (cs.map lab).length) && decide ((ded jl).length = jl.length) && (cs.filter fun c => decide (c.part ∈ jl)).isEmpty) = true
      have flt : (cs.filter fun c => decide (c.part ∈ jl)) = [] := by
        rw [List.filter_eq_nil_iff]
        intro y hy
        obtain ⟨_, _, u3, u4⟩ := parts6_name y.part (gc y hy).2
        rw [decide_eq_true_eq]
        intro z
        rcases hjl with e | e | e <;> rw [e] at z
        · cases z
        · exact u3 (List.mem_singleton.mp z)
        · rcases List.mem_cons.mp z with z | z
          · exact u3 z
          · exact u4 (List.mem_singleton.mp z)
      rw [hpb.1, decide_eq_true (by omega : 1 ≤ cs.length + js.length), decide_eq_true (by omega : cs.length ≤ 24), decide_eq_true (by omega : js.length ≤ 3), decide_eq_true (ded_all.mpr nd), decide_eq_true (ded_all.mpr jnd), flt]
      rfl

/-! ### made, told -/
def R_gmade (c : Cs) (g : Cg) (ds : List Dat) (d : Dat) : Prop := ∃ x, goodG x ∧ ds = [gmT x] ∧ d = gmD c g x
theorem at3 {α : Type} (a b c d : α) (r : List α) : atI (a :: b :: c :: d :: r) 3 = some d := atI_nat (j := 3) rfl
theorem take_next {α : Type} {l : List α} {i : Nat} {x : α} (h : l[i]? = some x) : l.take (i + 1) = l.take i ++ [x] := by rw [List.take_succ, h]; rfl
theorem getMap {α : Type} {enc : α → Dat} {l : List α} {i : Nat} {d : Dat} (h : (l.map enc)[i]? = some d) : ∃ y, l[i]? = some y ∧ d = enc y := by
  rw [List.getElem?_map] at h
  cases z : l[i]? with
  | none => rw [z] at h; cases h
  | some y => rw [z] at h; exact ⟨y, rfl, (Option.some.inj h).symm⟩
theorem s_mades {K : PySem.W.Frag} {c : Cs} {ρ : List Sl} {te : TE} {j : Nat} {its : List Itm} (h : Sem K te ρ (.lst (its.map itold))) (hj : j < ρ.length) (hn : its.length ≤ 1000) (hg : ∀ i ∈ its, goodI i) :
    Sem K (tLc (iU K te) (gName j) tYes (tCall (spO K (R_made c)) [] E0 (tCons (tVar j) tNil)) [j]) ρ (sq false (its.map (iins c))) := by
  have hS : sizeLine = 16777216 := rfl
  exact s_ofN (sn_lcM (xs := its) (enc := itold) (g := iins c) (si_u h rfl) (by omega) fun i hi => s_callO0 (sa_cons (s_var (List.getElem?_set_self hj)) sa_nil) ⟨i, hg i hi, rfl, rfl⟩)
set_option maxHeartbeats 1000000 in
theorem h__law_made {K : PySem.W.Frag} {W : WX} {c : Cs} {g : Cg} {X : Addr} (kg : Kg K g) (ds : List Dat) (d : Dat) (h : R_gmade c g ds d) :
    SemS K W (T__law_made K (spO K (R_made c)) g.C g.G g.J (spInit K g.C (R_Choice c g X)) (spInit K g.G (R_Grammar c g X)) (spInit K g.J (R_Joins g X))) (slots 17 ds) (PF d) := by
  obtain ⟨x, hg, rfl, rfl⟩ := h
  have hS : sizeLine = 16777216 := rfl
  obtain ⟨f1, f2, f3⟩ := hg.facts
  apply ss_seq
  refine ss_asgG (d := gmT x) (s_var rfl) (sg_tup (ds := [.txt x.start, .lst (x.cs.map chT), .lst (x.js.map jnT)]) (sgs_cons sg_name (sgs_cons sg_name (sgs_cons sg_name sgs_nil))) rfl) ?_
  apply ss_seq
  refine ss_asgN (sn_lst sa_nil (by show 0 ≤ sizeLine; decide)) ?_
  apply ss_seq
  refine ss_for (ds := x.cs.map chT) (si_u (s_var rfl) rfl) (fun i ρ => ∃ s5 s6 s7, ρ = [.dat (gmT x), .dat (.txt x.start), .dat (.lst (x.cs.map chT)), .dat (.lst (x.js.map jnT)), .own ((x.cs.take i).map (chD c g)), s5, s6, s7, .no, .no, .no, .no, .no, .no, .no, .no, .no]) ⟨_, _, _, rfl⟩ ?_ ?_
  · rintro i d ρ1 hd ⟨s5, s6, s7, rfl⟩
    obtain ⟨y, hy, rfl⟩ := getMap hd
    have gy := hg.c y (List.mem_of_getElem? hy)
    refine ⟨_, sg_tup (ds := [.txt y.part, .txt y.label, .lst (y.items.map itold)]) (sgs_cons sg_name (sgs_cons sg_name (sgs_cons sg_name sgs_nil))) rfl, ?_⟩
    refine ss_app (d := chD c g y) (ds := (x.cs.take i).map (chD c g)) rfl (s_choice (q := false) (s_var rfl) (s_var rfl) (s_mades (s_var rfl) (by show 13 < 17; decide) gy.l.n gy.i) gy.l gy.o) (by rw [List.length_map, List.length_take]; omega) ⟨_, _, _, by rw [take_next hy, List.map_append]; rfl⟩
  · rintro ρ1 ⟨s5, s6, s7, rfl⟩
    rw [List.length_map, List.take_length]
    refine ss_freeze 4 (ds := x.cs.map (chD c g)) rfl ?_
    apply ss_seq
    have hc := cs_lenL (K := K) (cs := x.cs.map chT)
    rw [List.length_map] at hc
    refine ss_if (k := decide (((x.cs.length : Nat) : Int) % 2 = 0)) (st_test (s_op (s_op (s_cb (sa_cons (s_var rfl) sa_nil) hc) s_int (os_mod (by decide))) s_int os_eqI)) (fun _ => ?_) (fun _ => ?_)
    · refine ss_ret (s_grammar (q1 := false) (q2 := false) (s_var rfl) (s_var rfl) (s_ofN (sn_lcM (xs := x.js) (enc := jnT) (g := jnD g) (si_u (s_var rfl) rfl) (by omega) fun y hy => ?_)) hg.l hg.o) rfl
      exact s_joins (q1 := true) (q2 := false) (q3 := false) (s_op (a := jnT y) (b := .int 0) (s_var rfl) s_int (os_ixU (at0 _ _))) (s_op (a := jnT y) (b := .int 1) (s_var rfl) s_int (os_ixU (at1 _ _ _))) (s_op (a := jnT y) (b := .int 2) (s_var rfl) s_int (os_ixU (at2 _ _ _ _))) (s_op (a := jnT y) (b := .int 3) (s_var rfl) s_int (os_ixU (at3 _ _ _ _ _))) (hg.j y hy).l (hg.j y hy).o
    · apply ss_next
      apply ss_seq
      refine ss_asg (d := .tup (x.cs.map (chD c g))) (s_cb (sa_cons (s_ofN (sn_lcM (xs := x.cs) (enc := chD c g) (g := chD c g) (si_u (s_var rfl) rfl) (by omega) fun y hy => s_choice (q := true) (s_fldI (s_var rfl) kg.C.cl kg.Cp rfl) (s_fldI (s_var rfl) kg.C.cl kg.Cl rfl) (s_cb (sa_cons (s_fldI (s_var rfl) kg.C.cl kg.Ct rfl) sa_nil) (cs_tuple rfl)) (hg.c y hy).l (hg.c y hy).o)) sa_nil) (cs_tuple rfl)) ?_
      apply ss_seq
      refine ss_asgN (sn_lst sa_nil (by show 0 ≤ sizeLine; decide)) ?_
      apply ss_seq
      refine ss_for (ds := x.js.map jnT) (si_u (s_var rfl) rfl) (fun i ρ => ∃ s5 s6 s7 s9 s10 s11 s12, ρ = [.dat (gmT x), .dat (.txt x.start), .dat (.lst (x.cs.map chT)), .dat (.lst (x.js.map jnT)), .dat (.tup (x.cs.map (chD c g))), s5, s6, s7, .own ((x.js.take i).map (jnD g)), s9, s10, s11, s12, .no, .no, .no, .no]) ⟨_, _, _, _, _, _, _, rfl⟩ ?_ ?_
      · rintro i d ρ1 hd ⟨s5, s6, s7, s9, s10, s11, s12, rfl⟩
        obtain ⟨y, hy, rfl⟩ := getMap hd
        have gy := hg.j y (List.mem_of_getElem? hy)
        have ll := gy.l.n
        refine ⟨_, sg_tup (ds := [.txt y.part, .txt y.of, .tup (y.br.map .txt), .lst (y.lv.map lvT)]) (sgs_cons sg_name (sgs_cons sg_name (sgs_cons sg_name (sgs_cons sg_name sgs_nil)))) rfl, ?_⟩
        apply ss_seq
        refine ss_asg (d := .tup (y.lv.map (lvI true))) (s_cb (sa_cons (s_ofN (sn_lcGA (xs := y.lv) (enc := lvT) (gd := lvI true) (si_u (s_var rfl) rfl) (by omega) fun z hz => ⟨_, sgv_tup (ds := [.txt z.1, .lst (z.2.map .txt)]) (sgvs_cons (sgv_name (by decide)) (sgvs_cons (sgv_name (by decide)) sgvs_nil)) rfl, ?_⟩)) sa_nil) (cs_tuple rfl)) ?_
        · exact s_tup (sa_cons (a := .txt z.1) (s_var rfl) (sa_cons (a := .tup (z.2.map .txt)) (s_cb (sa_cons (s_var rfl) sa_nil) (cs_tuple rfl)) sa_nil)) (by show 2 ≤ sizeLine; decide)
        refine ss_app (d := jnD g y) (ds := (x.js.take i).map (jnD g)) rfl (s_joins (q1 := false) (q2 := true) (q3 := true) (s_var rfl) (s_var rfl) (s_ofN (sn_list (sa_cons (s_var rfl) sa_nil) rfl)) (s_var rfl) gy.l gy.o) (by rw [List.length_map, List.length_take]; omega) ⟨_, _, _, _, _, _, _, by rw [take_next hy, List.map_append]; rfl⟩
      · rintro ρ1 ⟨s5, s6, s7, s9, s10, s11, s12, rfl⟩
        rw [List.length_map, List.take_length]
        refine ss_freeze 8 (ds := x.js.map (jnD g)) rfl ?_
        exact ss_ret (s_grammar (q1 := true) (q2 := true) (s_var rfl) (s_var rfl) (s_cb (sa_cons (s_var rfl) sa_nil) (cs_tuple rfl)) hg.l hg.o) rfl
def R_gtold (c : Cs) (g : Cg) (ds : List Dat) (d : Dat) : Prop := ∃ x, goodG x ∧ ds = [gmD c g x] ∧ d = gmT x
theorem h__law_told {K : PySem.W.Frag} {W : WX} {c : Cs} {g : Cg} (kg : Kg K g) (ds : List Dat) (d : Dat) (h : R_gtold c g ds d) : SemS K W (T__law_told K (msT1 K c)) (slots 8 ds) (PF d) := by
  obtain ⟨x, hg, rfl, rfl⟩ := h
  have hS : sizeLine = 16777216 := rfl
  obtain ⟨f1, f2, f3⟩ := hg.facts
  apply ss_seq
  refine ss_asg (d := .lst (x.cs.map chT)) (s_ofN (sn_lcM (xs := x.cs) (enc := chD c g) (g := chT) (si_u (s_fldI (s_var rfl) kg.G.cl kg.Gc rfl) rfl) (by omega) fun y hy => ?_)) ?_
  · have hn := (hg.c y hy).l.n
    exact s_tup (sa_cons (a := .txt y.part) (s_fldI (s_var rfl) kg.C.cl kg.Cp rfl) (sa_cons (a := .txt y.label) (s_fldI (s_var rfl) kg.C.cl kg.Cl rfl) (sa_cons (a := .lst (y.items.map itold)) (s_ofN (sn_lcM (xs := y.items) (enc := iins c) (g := itold) (si_u (s_fldI (s_var rfl) kg.C.cl kg.Ct rfl) rfl) (by omega) fun i hi => s_itold ((hg.c y hy).i i hi) (s_var rfl))) sa_nil))) (by show 3 ≤ sizeLine; decide)
  apply ss_seq
  refine ss_asgN (sn_lst sa_nil (by show 0 ≤ sizeLine; decide)) ?_
  apply ss_seq
  refine ss_for (ds := x.js.map (jnD g)) (si_u (s_fldI (s_var rfl) kg.G.cl kg.Gj rfl) rfl) (fun i ρ => ∃ s3 s4, ρ = [.dat (gmD c g x), .dat (.lst (x.cs.map chT)), .own ((x.js.take i).map jnT), s3, s4, .no, .no, .no]) ⟨_, _, rfl⟩ ?_ ?_
  · rintro i d ρ1 hd ⟨s3, s4, rfl⟩
    obtain ⟨y, hy, rfl⟩ := getMap hd
    have gy := hg.j y (List.mem_of_getElem? hy)
    have ll := gy.l.n
    refine ⟨_, sg_name, ?_⟩
    apply ss_seq
    refine ss_asg (d := .lst (y.lv.map lvT)) (s_ofN (sn_lcGA (xs := y.lv) (enc := lvD) (gd := lvT) (si_u (s_fldI (s_var rfl) kg.J.cl kg.Jl rfl) rfl) (by omega) fun z hz => ⟨_, sgv_tup (ds := [.txt z.1, .tup (z.2.map .txt)]) (sgvs_cons (sgv_name (by decide)) (sgvs_cons (sgv_name (by decide)) sgvs_nil)) rfl, ?_⟩)) ?_
    · exact s_tup (sa_cons (a := .txt z.1) (s_var rfl) (sa_cons (a := .lst (z.2.map .txt)) (s_ofN (sn_list (sa_cons (s_var rfl) sa_nil) rfl)) sa_nil)) (by show 2 ≤ sizeLine; decide)
    refine ss_app (d := jnT y) (ds := (x.js.take i).map jnT) rfl (s_tup (sa_cons (s_fldI (s_var rfl) kg.J.cl kg.Jp rfl) (sa_cons (s_fldI (s_var rfl) kg.J.cl kg.Jo rfl) (sa_cons (s_fldI (s_var rfl) kg.J.cl kg.Jb rfl) (sa_cons (s_var rfl) sa_nil)))) (by show 4 ≤ sizeLine; decide)) (by rw [List.length_map, List.length_take]; omega) ⟨_, _, by rw [take_next hy, List.map_append]; rfl⟩
  · rintro ρ1 ⟨s3, s4, rfl⟩
    rw [List.length_map, List.take_length]
    refine ss_freeze 2 (ds := x.js.map jnT) rfl ?_
    exact ss_ret (d := gmT x) (s_tup (sa_cons (s_fldI (s_var rfl) kg.G.cl kg.Gs rfl) (sa_cons (s_var rfl) (sa_cons (s_var rfl) sa_nil))) (by show 3 ≤ sizeLine; decide)) rfl
/-! what is told can be compared -/
theorem isKind_okc {k : List Nat} (h : isKind k = true) : Okc k := by
  have open_okc : ∀ t ∈ open3, ∀ c ∈ t, c < 1114112 := by decide +kernel
  by_cases ho : k ∈ open3
  · exact open_okc k ho
  · unfold isKind at h
    rw [decide_eq_false ho, Bool.false_or, Bool.and_eq_true, decide_eq_true_eq, quo1] at h
    cases k with
    | nil => cases h.1
    | cons a w =>
      have ha : cutL (a :: w) none (some 1) = [a] := by
        unfold cutL
        rw [HT.sIx_none, show (1 : Int) = ((1 : Nat) : Int) from rfl, HT.sIx_nat, List.length_cons, Nat.min_eq_left (by omega)]
        rfl
      rw [ha] at h
      have : a = 39 := by simpa using h.1
      subst this
      rw [cut_q2] at h
      intro c hc
      rcases List.mem_cons.mp hc with z | z
      · rw [z]; decide
      · exact isFixed_okc h.2 c z
theorem tags_okc : Okc tPart ∧ Okc tWord ∧ Okc tMaybe ∧ Okc tAgain := by
  have h : (∀ c ∈ tPart, c < 1114112) ∧ (∀ c ∈ tWord, c < 1114112) ∧ (∀ c ∈ tMaybe, c < 1114112) ∧ (∀ c ∈ tAgain, c < 1114112) := by decide +kernel
  exact h
theorem good2 {n : Nat} {a b : Dat} (ha : goodD n a) (hb : goodD n b) : goodD (n + 1) (.tup [a, b]) := fun d hd => by
  rcases List.mem_cons.mp hd with z | z
  · rw [z]; exact ha
  · rw [List.mem_singleton.mp z]; exact hb
theorem good3 {n : Nat} {a b c : Dat} (ha : goodD n a) (hb : goodD n b) (hc : goodD n c) : goodD (n + 1) (.tup [a, b, c]) := fun d hd => by
  rcases List.mem_cons.mp hd with z | z
  · rw [z]; exact ha
  · rcases List.mem_cons.mp z with z | z
    · rw [z]; exact hb
    · rw [List.mem_singleton.mp z]; exact hc
theorem goodTxt {n : Nat} {t : List Nat} (h : Okc t) : goodD n (.txt t) := by cases n <;> exact h
theorem good_ptold {p : PIt} (h : goodP p) : goodD 1 (ptold p) := by
  cases p with
  | part n => exact good2 (goodTxt tags_okc.1) (goodTxt (isName_okc h.1))
  | word n => exact good2 (goodTxt tags_okc.2.1) (goodTxt (isKind_okc h.1))
theorem good_itold {i : Itm} (h : goodI i) : goodD 3 (itold i) := by
  cases i with
  | pl p => exact good_mono (by decide) (good_ptold h)
  | maybe l => exact good2 (goodTxt tags_okc.2.2.1) (show goodD 2 (.tup (l.map ptold)) from good_map fun p hp => good_ptold (h.2.2 p hp))
  | again l b =>
    refine good3 (goodTxt tags_okc.2.2.2) (show goodD 2 (.tup (l.map ptold)) from good_map fun p hp => good_ptold (h.2.2.1 p hp)) ?_
    cases b with
    | none => exact trivial
    | some t =>
      have hb : (isKind t && isFixed (cutL t (some 1) none)) = true := h.2.2.2.1
      rw [Bool.and_eq_true] at hb
      exact isKind_okc hb.1
theorem good_txts {n : Nat} {ws : List (List Nat)} (h : ∀ w ∈ ws, Okc w) : ∀ d ∈ ws.map Dat.txt, goodD n d := good_map fun w hw => goodTxt (h w hw)
theorem good_chT {x : Chc} (h : goodC x) : goodD 5 (chT x) := by
  have o := h.o
  unfold chOk at o
  rw [Bool.and_eq_true, Bool.and_eq_true] at o
  exact good3 (goodTxt (isName_okc o.1.1)) (goodTxt (isName_okc o.1.2)) (show goodD 4 (.lst (x.items.map itold)) from good_map fun i hi => good_itold (h.i i hi))
theorem good_jnT {x : Jn} (h : goodJ x) : goodD 5 (jnT x) := by
  obtain ⟨f1, f2, f3, f4, f5, f6, f7⟩ := h.facts
  intro d hd
  rcases List.mem_cons.mp hd with z | z
  · rw [z]; exact isName_okc f1
  rcases List.mem_cons.mp z with z | z
  · rw [z]; exact isName_okc f2
  rcases List.mem_cons.mp z with z | z
  · rw [z]; exact good_txts fun w hw => isFixed_okc (f4 w hw)
  rw [List.mem_singleton.mp z]
  refine good_map fun y hy => ?_
  obtain ⟨y1, y2, y3, y4⟩ := h.lv y hy
  exact good2 (goodTxt (ways_okc y.1 y1).1) (show goodD 2 (.lst (y.2.map .txt)) from good_txts fun w hw => isFixed_okc (y4 w hw))
theorem good_gmT {x : Gm} (h : goodG x) : goodD 7 (gmT x) := by
  exact good3 (goodTxt (isName_okc h.facts.1)) (show goodD 6 (.lst (x.cs.map chT)) from good_map fun y hy => good_chT (h.c y hy)) (show goodD 6 (.lst (x.js.map jnT)) from good_map fun y hy => good_jnT (h.j y hy))

/-! ### the law's rows -/
def lawRows (x : Gm) : List (List Nat) := (tStart ++ x.start) :: (x.cs.map chText ++ (x.js.map jnRows).flatten)
theorem joinL_cons (s a b : List Nat) (r : List (List Nat)) : joinL s (a :: b :: r) = a ++ s ++ joinL s (b :: r) := rfl
theorem joinL_nl : ∀ rows : List (List Nat), rows ≠ [] → joinL [10] rows ++ [10] = (rows.map fun r => r ++ [10]).flatten
  | [], h => absurd rfl h
  | [a], _ => by show a ++ [10] = [a ++ [10]].flatten; simp
  | a :: b :: r, _ => by
    have ih := joinL_nl (b :: r) (by simp)
    rw [joinL_cons, List.map_cons, List.flatten_cons, ← ih, List.append_assoc, List.append_assoc]
theorem rows_text (x : Gm) : ((lawRows x).map fun r => r ++ [10]).flatten = gmText x := by
  unfold lawRows gmText gmRows
  simp only [List.map_cons, List.map_append, List.flatten_cons, List.flatten_append]
  congr 2
  generalize x.js = js
  induction js with
  | nil => rfl
  | cons y r ih =>
    rw [List.map_cons, List.flatten_cons, List.map_append, List.flatten_append, ih, List.map_cons, List.map_cons, List.flatten_cons]
    show _ = joinL [10] (jnRows y) ++ [10] ++ _
    rw [joinL_nl _ (by unfold jnRows; simp)]
def tJoinsB : List Nat := (Str.ofString " joins ").cps.toList
def tInB : List Nat := (Str.ofString " in ").cps.toList
theorem txb : tJoinsB = [32] ++ tJoins ++ [32] ∧ tInB = [32] ++ tIn ++ [32] := by decide +kernel
theorem head_is {x : Jn} (h : goodJ x) : x.part ++ tJoinsB ++ x.of ++ tInB ++ joinL [32] (x.br.map quot) = jnHead x := by
  obtain ⟨b1, b2, eb⟩ : ∃ b1 b2, x.br = [b1, b2] := by
    have z := h.facts.2.2.1
    match x.br, z with
    | [b1, b2], _ => exact ⟨b1, b2, rfl⟩
  unfold jnHead
  rw [eb, txb.1, txb.2]
  show _ = joinL [32] [x.part, tJoins, x.of, tIn, quot b1, quot b2]
  rw [joinL_cons, joinL_cons, joinL_cons, joinL_cons]
  simp only [List.append_assoc]
  rfl
def R_rows (ds : List Dat) (d : Dat) : Prop := ∃ x, goodG x ∧ ds = [gmT x] ∧ d = .lst ((lawRows x).map .txt)
theorem s_lquot {K : PySem.W.Frag} {ρ : List Sl} {te : TE} {w : List Nat} (h : Sem K te ρ (.txt w)) (hl : w.length ≤ 1000) : Sem K (tOp (uAdd K) (tOp (uAdd K) (tC (.str (Str.ofString "'"))) te) (tC (.str (Str.ofString "'")))) ρ (.txt (quot w)) := by
  have hS : sizeLine = 16777216 := rfl
  have hq : quo.length = 1 := by rw [quo1]; rfl
  exact s_is (d := .txt (quo ++ w ++ quo)) (s_op (a := .txt (quo ++ w)) (b := .txt quo) (s_op (a := .txt quo) (b := .txt w) s_str h (os_addT (by omega))) s_str (os_addT (by rw [List.length_append]; omega))) (by rw [quo1]; rfl)
theorem s_lquots {K : PySem.W.Frag} {ρ : List Sl} {te : TE} {j : Nat} {q : Bool} {ws : List (List Nat)} (h : Sem K te ρ (sq q (ws.map .txt))) (hj : j < ρ.length) (hn : ws.length ≤ 1000) (hp : ∀ w ∈ ws, w.length ≤ 1000) :
    Sem K (tLc (iU K te) (gName j) tYes (tOp (uAdd K) (tOp (uAdd K) (tC (.str (Str.ofString "'"))) (tVar j)) (tC (.str (Str.ofString "'")))) [j]) ρ (.lst (ws.map fun w => .txt (quot w))) := by
  have hS : sizeLine = 16777216 := rfl
  exact s_ofN (sn_lcM (xs := ws) (enc := .txt) (g := fun w => .txt (quot w)) (si_u h sq_items) (by omega) fun w hw => s_lquot (s_var (List.getElem?_set_self hj)) (hp w hw))
set_option maxHeartbeats 1000000 in
theorem h__law_rows {K : PySem.W.Frag} {W : WX} (ds : List Dat) (d : Dat) (h : R_rows ds d) : SemS K W (T__law_rows K (spD K R_itx)) (slots 16 ds) (PF d) := by
  obtain ⟨x, hg, rfl, rfl⟩ := h
  have hS : sizeLine = 16777216 := rfl
  obtain ⟨f1, f2, f3⟩ := hg.facts
  have hs := hg.l.s
  obtain ⟨_, _, _, b4, b5⟩ := tx_len
  apply ss_seq
  refine ss_asgG (d := gmT x) (s_var rfl) (sg_tup (ds := [.txt x.start, .lst (x.cs.map chT), .lst (x.js.map jnT)]) (sgs_cons sg_name (sgs_cons sg_name (sgs_cons sg_name sgs_nil))) rfl) ?_
  apply ss_seq
  refine ss_asgN (ds := [.txt (tStart ++ x.start)]) (sn_lst (sa_cons (s_op s_str (s_var rfl) (os_addT (by show tStart.length + _ ≤ _; omega))) sa_nil) (by show 1 ≤ sizeLine; decide)) ?_
  apply ss_seq
  refine ss_for (ds := x.cs.map chT) (si_u (s_var rfl) rfl) (fun i ρ => ∃ s5 s6 s7, ρ = [.dat (gmT x), .dat (.txt x.start), .dat (.lst (x.cs.map chT)), .dat (.lst (x.js.map jnT)), .own (((tStart ++ x.start) :: (x.cs.take i).map chText).map .txt), s5, s6, s7, .no, .no, .no, .no, .no, .no, .no, .no]) ⟨_, _, _, rfl⟩ ?_ ?_
  · rintro i d ρ1 hd ⟨s5, s6, s7, rfl⟩
    obtain ⟨y, hy, rfl⟩ := getMap hd
    have gy := hg.c y (List.mem_of_getElem? hy)
    obtain ⟨h1, h2⟩ := ch_sum gy
    have h3 := gy.few
    refine ⟨_, sg_tup (ds := [.txt y.part, .txt y.label, .lst (y.items.map itold)]) (sgs_cons sg_name (sgs_cons sg_name (sgs_cons sg_name sgs_nil))) rfl, ?_⟩
    refine ss_app (d := .txt (chText y)) (ds := ((tStart ++ x.start) :: (x.cs.take i).map chText).map .txt) rfl (s_is (d := .txt (joinL sp1 ([y.part, y.label, tEq] ++ y.items.map itext))) (s_m1 (d := .lst (([y.part, y.label, tEq] ++ y.items.map itext).map .txt)) s_str (s_is (d := .lst ([.txt y.part, .txt y.label, .txt tEq] ++ y.items.map fun i => .txt (itext i))) (s_op (a := .lst [.txt y.part, .txt y.label, .txt tEq]) (b := .lst (y.items.map fun i => .txt (itext i)))
      (s_lst (sa_cons (s_var rfl) (sa_cons (s_var rfl) (sa_cons s_str sa_nil))) (by show 3 ≤ sizeLine; decide))
      (s_ofN (sn_lcM (xs := y.items) (enc := itold) (g := fun i => .txt (itext i)) (si_u (s_var rfl) rfl) (by omega) fun i hi => s_call (sa_cons (s_var rfl) sa_nil) ⟨i, gy.i i hi, rfl, rfl⟩)) (os_addL (by rw [List.length_map]; show 3 + _ ≤ _; omega))) (by rw [List.map_append, List.map_map]; rfl)) (ms_join ?_)) (by rw [sp1_eq]; rfl)) (by rw [List.length_map, List.length_cons, List.length_map, List.length_take]; omega) ⟨.dat (.txt y.part), .dat (.txt y.label), .dat (.lst (y.items.map itold)), ?_⟩
    · show _ + _ * sp1.length ≤ _
      rw [sp1_eq]
      show _ + _ * 1 ≤ _
      omega
    · rw [take_next hy]
      simp only [List.map_append, List.map_cons, List.map_nil, List.cons_append]
      rfl
  · rintro ρ1 ⟨s5, s6, s7, rfl⟩
    rw [List.length_map, List.take_length]
    have jb : ∀ i, ((x.js.take i).map jnRows).flatten.length ≤ 6 * i := fun i => by
      have : ∀ l : List Jn, (∀ y ∈ l, goodJ y) → (l.map jnRows).flatten.length ≤ 6 * l.length := by
        intro l
        induction l with
        | nil => intro _; exact Nat.le_refl _
        | cons y r ih =>
          intro hl
          have h1 := (rows_sum (hl y (.head _))).2
          have h2 := ih fun z hz => hl z (.tail _ hz)
          rw [List.map_cons, List.flatten_cons, List.length_append, List.length_cons]
          omega
      have z := this (x.js.take i) fun y hy => hg.j y (List.mem_of_mem_take hy)
      rw [List.length_take] at z
      omega
    apply ss_seq
    refine ss_for (ds := x.js.map jnT) (si_u (s_var rfl) rfl) (fun i ρ => ∃ s5 s6 s7 s8 s9 s10 s11 s12 s13, ρ = [.dat (gmT x), .dat (.txt x.start), .dat (.lst (x.cs.map chT)), .dat (.lst (x.js.map jnT)), .own (((tStart ++ x.start) :: (x.cs.map chText ++ ((x.js.take i).map jnRows).flatten)).map .txt), s5, s6, s7, s8, s9, s10, s11, s12, s13, .no, .no]) ⟨_, _, _, _, _, _, _, _, _, by rw [List.take_zero, List.map_nil, List.flatten_nil, List.append_nil]⟩ ?_ ?_
    · rintro i d ρ1 hd ⟨s5, s6, s7, s8, s9, s10, s11, s12, s13, rfl⟩
      obtain ⟨y, hy, rfl⟩ := getMap hd
      have gy := hg.j y (List.mem_of_getElem? hy)
      have jbi := jb i
      have hi3 : i < 3 := by have := (List.getElem?_eq_some_iff.mp hy).1; omega
      obtain ⟨r1, r2⟩ := head_sum gy
      have hbr := gy.facts.2.2.1
      have hlv := gy.facts.2.2.2.2.1
      have l1 := gy.l.p
      have l2 := gy.l.o
      have hq4 : ((y.br.map quot).map (·.length)).sum ≤ y.br.length * 1002 := sum_len_le quot 1002 y.br fun w hw => by rw [quot_len]; have := gy.l.b.2 w hw; omega
      have hpl : (joinL [32] (y.br.map quot)).length ≤ 3000 := by
        have := joinL_sum [32] (y.br.map quot)
        rw [List.length_map] at this
        simp only [List.length_cons, List.length_nil] at this
        omega
      have tb : tJoinsB.length = 7 ∧ tInB.length = 4 := by decide +kernel
      refine ⟨_, sg_tup (ds := [.txt y.part, .txt y.of, .tup (y.br.map .txt), .lst (y.lv.map lvT)]) (sgs_cons sg_name (sgs_cons sg_name (sgs_cons sg_name (sgs_cons sg_name sgs_nil)))) rfl, ?_⟩
      apply ss_seq
      refine ss_asg (d := .txt (joinL [32] (y.br.map quot))) (s_is (d := .txt (joinL sp1 (y.br.map quot))) (s_m1 (d := .lst (y.br.map fun w => .txt (quot w))) s_str (s_lquots (q := true) (s_var rfl) (by show 15 < 16; decide) (by omega) gy.l.b.2) (ms_joinM ?_)) (by rw [sp1_eq])) ?_
      · show _ + _ * sp1.length ≤ _
        rw [sp1_eq]
        show _ + _ * 1 ≤ _
        omega
      apply ss_seq
      refine ss_app (d := .txt (jnHead y)) (ds := ((tStart ++ x.start) :: (x.cs.map chText ++ ((x.js.take i).map jnRows).flatten)).map .txt) rfl (s_is (d := .txt (y.part ++ tJoinsB ++ y.of ++ tInB ++ joinL [32] (y.br.map quot))) (s_op (s_op (s_op (s_op (s_var rfl) (s_str (x := Str.ofString " joins ")) (os_addT (by show _ + tJoinsB.length ≤ _; omega))) (s_var rfl) (os_addT (by show (y.part ++ tJoinsB).length + _ ≤ _; rw [List.length_append]; omega))) (s_str (x := Str.ofString " in ")) (os_addT (by show (y.part ++ tJoinsB ++ y.of).length + tInB.length ≤ _; rw [List.length_append, List.length_append]; omega))) (s_var rfl) (os_addT (by show (y.part ++ tJoinsB ++ y.of ++ tInB).length + _ ≤ _; rw [List.length_append, List.length_append, List.length_append]; omega))) (by rw [head_is gy])) (by rw [List.length_map, List.length_cons, List.length_append, List.length_map]; omega) ?_
      refine ss_for (ds := y.lv.map lvT) (si_u (s_var rfl) rfl) (fun m ρ => ∃ s12 s13, ρ = [.dat (gmT x), .dat (.txt x.start), .dat (.lst (x.cs.map chT)), .dat (.lst (x.js.map jnT)), .own (((tStart ++ x.start) :: (x.cs.map chText ++ ((x.js.take i).map jnRows).flatten ++ (jnHead y :: (y.lv.take m).map lvRow))).map .txt), .dat (.txt y.part), s6, s7, .dat (.txt y.of), .dat (.tup (y.br.map .txt)), .dat (.lst (y.lv.map lvT)), .dat (.txt (joinL [32] (y.br.map quot))), s12, s13, .no, .no]) ⟨s12, s13, ?_⟩ ?_ ?_
      · simp only [List.map_append, List.map_cons, List.map_nil, List.cons_append, List.take_zero]
        rfl
      · rintro m d ρ1 hd ⟨s12', s13', rfl⟩
        obtain ⟨z, hz, rfl⟩ := getMap hd
        have hm := List.mem_of_getElem? hz
        obtain ⟨q1, q2⟩ := row_sum gy hm
        have lz := gy.l.l z hm
        have lw := (gy.lv z hm).2.1
        refine ⟨_, sg_tup (ds := [.txt z.1, .lst (z.2.map .txt)]) (sgs_cons sg_name (sgs_cons sg_name sgs_nil)) rfl, ?_⟩
        refine ss_app (d := .txt (lvRow z)) rfl (s_is (d := .txt (joinL sp1 ([z.1] ++ z.2.map quot))) (s_m1 (d := .lst (([z.1] ++ z.2.map quot).map .txt)) s_str (s_is (d := .lst ([.txt z.1] ++ z.2.map fun i => .txt (quot i))) (s_op (a := .lst [.txt z.1]) (b := .lst (z.2.map fun i => .txt (quot i)))
          (s_lst (sa_cons (s_var rfl) sa_nil) (by show 1 ≤ sizeLine; decide))
          (s_lquots (q := false) (s_var rfl) (by show 15 < 16; decide) (by omega) lz.p) (os_addL (by rw [List.length_map]; show 1 + _ ≤ _; omega))) (by rw [List.map_append, List.map_map]; rfl)) (ms_join ?_)) (by rw [sp1_eq]; rfl)) (by simp only [List.length_map, List.length_cons, List.length_append, List.length_take]; omega) ⟨.dat (.txt z.1), .dat (.lst (z.2.map .txt)), ?_⟩
        · show _ + _ * sp1.length ≤ _
          rw [sp1_eq]
          show _ + _ * 1 ≤ _
          omega
        · rw [take_next hz]
          simp only [List.map_append, List.map_cons, List.map_nil, List.cons_append, List.append_assoc]
          rfl
      · rintro ρ1 ⟨s12', s13', rfl⟩
        rw [List.length_map, List.take_length]
        refine ⟨_, _, _, _, _, _, _, _, _, (by
          have e : x.cs.map chText ++ ((x.js.take i).map jnRows).flatten ++ (jnHead y :: y.lv.map lvRow) = x.cs.map chText ++ ((x.js.take (i + 1)).map jnRows).flatten := by
            rw [take_next hy, List.map_append, List.flatten_append, List.append_assoc]
            show _ = _ ++ (_ ++ [jnRows y].flatten)
            rw [List.flatten_cons, List.flatten_nil, List.append_nil]
            rfl
          rw [e])⟩
    · rintro ρ1 ⟨s5, s6, s7, s8, s9, s10, s11, s12, s13, rfl⟩
      rw [List.length_map, List.take_length]
      refine ss_freeze 4 (ds := (lawRows x).map .txt) rfl ?_
      exact ss_ret (s_var rfl) rfl
/-! ### the law -/
def R_law (ds : List Dat) (d : Dat) : Prop := ∃ ns, ds = [.scr ns] ∧ ns.length ≤ 63 ∧ d = .bl true
theorem gmText_ne (x : Gm) : gmText x ≠ [] := by
  unfold gmText gmRows
  rw [List.map_cons, List.flatten_cons]
  simp
theorem lawRows_len {x : Gm} (h : goodG x) : (lawRows x).length ≤ 43 ∧ ∀ r ∈ lawRows x, r.length ≤ 31100 := by
  obtain ⟨f1, f2, f3⟩ := h.facts
  have hs := h.l.s
  obtain ⟨_, _, _, _, b5⟩ := tx_len
  have jf : ∀ l : List Jn, (∀ y ∈ l, goodJ y) → (l.map jnRows).flatten.length ≤ 6 * l.length ∧ ∀ r ∈ (l.map jnRows).flatten, r.length ≤ 31100 := by
    intro l
    induction l with
    | nil => intro _; exact ⟨Nat.le_refl _, fun _ h => by cases h⟩
    | cons y r ih =>
      intro hl
      have gy := hl y (.head _)
      have h1 := (rows_sum gy).2
      obtain ⟨h2, h3⟩ := ih fun z hz => hl z (.tail _ hz)
      rw [List.map_cons, List.flatten_cons]
      refine ⟨by rw [List.length_append, List.length_cons]; omega, fun q hq => ?_⟩
      rcases List.mem_append.mp hq with z | z
      · unfold jnRows at z
        rcases List.mem_cons.mp z with z | z
        · rw [z]; have := head_len gy; omega
        · obtain ⟨v, hv, rfl⟩ := List.mem_map.mp z
          have := row_len gy hv
          omega
      · exact h3 q z
  obtain ⟨j1, j2⟩ := jf x.js h.j
  unfold lawRows
  refine ⟨by rw [List.length_cons, List.length_append, List.length_map]; omega, fun r hr => ?_⟩
  rcases List.mem_cons.mp hr with z | z
  · rw [z, List.length_append]; omega
  · rcases List.mem_append.mp z with z | z
    · obtain ⟨y, hy, rfl⟩ := List.mem_map.mp z
      have := chText_len (h.c y hy)
      omega
    · exact j2 r z
set_option maxHeartbeats 1000000 in
theorem h_law {K : PySem.W.Frag} {W : WX} {c : Cs} {g : Cg} (ds : List Dat) (d : Dat) (h : R_law ds d) :
    SemS K W (T_law K (spN K D_grammar_by (valR R_grammar_by)) (spD K (R_gmade c g)) (spD K R_rows) (spD K (R_written c g)) (spD K (R_gtold c g))) (slots 7 ds) (PF d) := by
  obtain ⟨ns, rfl, hn, rfl⟩ := h
  have hS : sizeLine = 16777216 := rfl
  apply ss_seq
  refine ss_for (ds := (List.range (max 1 (min ((ns.length : Int) / 12) 10)).toNat).map fun k : Nat => .int ((k : Nat) : Int)) (si_range1Z (by walk_at "sems") (by omega) (by omega)) (fun i ρ => ∃ s1 s2 s3 s4 s5 s6, ρ = [.dat (.scr ns), s1, s2, s3, s4, s5, s6]) ⟨_, _, _, _, _, _, rfl⟩ ?_ ?_
  · rintro i d ρ1 hd ⟨s1, s2, s3, s4, s5, s6, rfl⟩
    obtain ⟨rfl, hi⟩ := getElem_range hd
    have hi10 : i < 100 := by omega
    refine ⟨_, sg_name, ?_⟩
    have s20 : ∀ ρ : List Sl, ρ[1]? = some (.dat (.int (i : Int))) → Sem K (tOp uMul (tC (.int 20)) (tVar 1)) ρ (.int (20 * (i : Int))) := fun ρ h1 => s_op s_int (s_var h1) (os_mul (by walk_at "mul"))
    apply ss_seq
    refine ss_asgE (S := fun d ρ' => ∃ x, goodG x ∧ d = gmT x ∧ ρ' = [.dat (.scr ns), .dat (.int (i : Int)), s2, s3, s4, s5, s6]) (X := noX) (se_callN (sea_of (ds := [.scr ns, .int (20 * (i : Int)), .int 8]) (sa_cons (s_var rfl) (sa_cons (s20 _ rfl) (sa_cons s_int sa_nil))) ⟨⟨ns, _, _, rfl, hn, by omega, by omega, by decide, by decide⟩, ?_⟩)) ?_ (fun _ _ _ z => z.elim)
    · rintro o ⟨d, rfl, a, b, most, x, _, gx, _, rfl⟩
      exact ⟨_, rfl, x, gx, rfl, rfl⟩
    rintro d ρ' ⟨x, gx, rfl, rfl⟩
    refine ⟨_, sg_name, ?_⟩
    apply ss_seq
    refine ss_asg (d := gmD c g x) (s_call (sa_cons (s_var rfl) sa_nil) ⟨x, gx, rfl, rfl⟩) ?_
    obtain ⟨g1, g2⟩ := lawRows_len gx
    obtain ⟨_, _, _, b4, _⟩ := tx_len
    have ej : joinL emp ((lawRows x).map fun r => r ++ nl1) = gmText x := by
      rw [joinL_emp, b4]
      exact rows_text x
    apply ss_seq
    refine ss_asg (d := .txt (gmText x)) (s_is (d := .txt (joinL emp ((lawRows x).map fun r => r ++ nl1))) (s_m1 (d := .lst ((lawRows x).map fun r => .txt (r ++ nl1))) s_str (s_ofN (sn_lcM (xs := lawRows x) (enc := .txt) (g := fun r => .txt (r ++ nl1)) (si_u (s_call (sa_cons (s_var rfl) sa_nil) ⟨x, gx, rfl, rfl⟩) rfl) (by omega) fun r hr => s_op (s_var rfl) s_str (os_addT (by show _ + nl1.length ≤ _; rw [b4]; have := g2 r hr; show _ + 1 ≤ _; omega)))) (ms_joinM ?_)) (by rw [ej])) ?_
    · have h5 : (((lawRows x).map fun r => r ++ nl1).map (·.length)).sum ≤ (lawRows x).length * 31101 := sum_len_le (fun r => r ++ nl1) 31101 (lawRows x) fun r hr => by
        have := g2 r hr
        rw [b4, List.length_append]
        show _ + 1 ≤ _
        omega
      show _ + _ * emp.length ≤ _
      rw [emp_nil]
      show _ + _ * 0 ≤ _
      omega
    apply ss_seq
    refine ss_asg (d := .txt (gmText x)) (s_call (sa_cons (s_var rfl) sa_nil) ⟨x, rfl, gx, rfl⟩) ?_
    apply ss_seq
    refine ss_if (k := !true || (!true || !true)) (st_or (st_not (st_bl (s_cb (sa_cons (a := .txt (gmText x)) (s_var rfl) (sa_cons s_ty sa_nil)) (cs_isiU rfl kb_str_str)))) (fun _ => st_or (st_test (s_is (s_op (s_var rfl) (s_var rfl) os_neT) (by rw [decide_eq_true rfl]))) (fun _ => st_test (s_op (a := gmT x) (b := gmT x) (s_call (sa_cons (s_var rfl) sa_nil) ⟨x, gx, rfl, rfl⟩) (s_var rfl) (os_neK (k := true) (good_gmT gx) (good_gmT gx) (by decide) (by decide) ⟨fun _ => rfl, fun _ => rfl⟩))))) (fun z => by cases z) (fun _ => ?_)
    apply ss_next
    refine ss_ifE (X := noX) (Sb := fun b ρ' => b = false ∧ ρ' = [.dat (.scr ns), .dat (.int (i : Int)), .dat (gmT x), .dat (gmD c g x), .dat (.txt (gmText x)), .dat (.txt (gmText x)), s6]) (set_or (S1 := fun b ρ' => b = false ∧ ρ' = [.dat (.scr ns), .dat (.int (i : Int)), .dat (gmT x), .dat (gmD c g x), .dat (.txt (gmText x)), .dat (.txt (gmText x)), s6]) (set_test ?_) (fun _ z => by cases z.1) (fun ρ' z => ?_)) (fun _ z => by cases z.1) (fun ρ' z => ?_) (fun _ _ _ z => z.elim)
    · refine se_op (S' := fun d ρ' => ∃ y, d = .txt (gmText y) ∧ ρ' = [.dat (.scr ns), .dat (.int (i : Int)), .dat (gmT x), .dat (gmD c g x), .dat (.txt (gmText x)), .dat (.txt (gmText x)), s6]) (Sb := fun _ _ => True) (se_callD (sea_cons (S' := fun d ρ' => ∃ y, goodG y ∧ d = gmD c g y ∧ ρ' = [.dat (.scr ns), .dat (.int (i : Int)), .dat (gmT x), .dat (gmD c g x), .dat (.txt (gmText x)), .dat (.txt (gmText x)), s6]) (se_callD (sea_cons (S' := fun d ρ' => ∃ y, goodG y ∧ d = gmT y ∧ ρ' = [.dat (.scr ns), .dat (.int (i : Int)), .dat (gmT x), .dat (gmD c g x), .dat (.txt (gmText x)), .dat (.txt (gmText x)), s6]) (se_callN (sea_of (ds := [.scr ns, .int (20 * (i : Int) + 7), .int 3]) (sa_cons (s_var rfl) (sa_cons (s_op (s20 _ rfl) s_int os_addI) (sa_cons s_int sa_nil))) ⟨⟨ns, _, _, rfl, hn, by omega, by omega, by decide, by decide⟩, ?_⟩)) ?_)) ?_)) ?_
      · rintro o ⟨d, rfl, a, b, most, y, _, gy, _, rfl⟩
        exact ⟨_, rfl, y, gy, rfl, rfl⟩
      · rintro d ρ' ⟨y, gy, rfl, rfl⟩
        exact sea_nil ⟨_, ⟨y, gy, rfl, rfl⟩, y, gy, rfl, rfl⟩
      · rintro d ρ' ⟨y, gy, rfl, rfl⟩
        exact sea_nil ⟨_, ⟨y, rfl, gy, rfl⟩, y, rfl, rfl⟩
      · rintro d ρ' ⟨y, rfl, rfl⟩
        refine se_of s_str ⟨_, os_eqT, false, ?_, rfl, rfl⟩
        rw [decide_eq_false]
        show gmText y ≠ emp
        rw [emp_nil]
        exact gmText_ne y
    · obtain ⟨_, rfl⟩ := z
      exact set_of (k := false) (st_test (s_is (s_op (a := .txt (gmText x)) (b := .txt (gmText x)) (s_call (sa_cons (s_var rfl) sa_nil) ⟨x, rfl, gx, rfl⟩) (s_var rfl) os_neT) (by rw [decide_eq_true rfl]; rfl))) ⟨rfl, rfl⟩
    · obtain ⟨_, rfl⟩ := z
      exact ss_next ⟨_, _, _, _, _, _, rfl⟩
  · rintro ρ1 ⟨s1, s2, s3, s4, s5, s6, rfl⟩
    exact ss_ret s_bl rfl
theorem len_is_of  : ∀ ds d, R_is_of ds d → ds.length = 3 := by rintro ds d ⟨_, _, _, rfl, _⟩; rfl
theorem len_is_fixed  : ∀ ds d, R_is_fixed ds d → ds.length = 1 := by rintro ds d ⟨_, _, rfl, _⟩; rfl
theorem len_is_kind  : ∀ ds d, R_is_kind ds d → ds.length = 1 := by rintro ds d ⟨_, _, rfl, _⟩; rfl
theorem len_fixed_of  : ∀ ds d, R_fixed_of ds d → ds.length = 1 := by rintro ds d ⟨_, rfl, _⟩; rfl
theorem len_is_name  : ∀ ds d, R_is_name ds d → ds.length = 1 := by rintro ds d ⟨_, rfl, _⟩; rfl
theorem len_quoted  : ∀ ds d, R_quoted ds d → ds.length = 1 := by rintro ds d ⟨_, rfl, _⟩; rfl
theorem len_place_of  : ∀ ds d, R_place_of ds d → ds.length = 1 := by rintro ds d ⟨_, rfl, _⟩; rfl
theorem len__law_cell  : ∀ ds d, R__law_cell ds d → ds.length = 2 := by rintro ds d ⟨_, _, rfl, _⟩; rfl
theorem len__law_signs  : ∀ ds d, R__law_signs ds d → ds.length = 0 := by rintro ds d ⟨rfl, _⟩; rfl
theorem len__law_fixed_by  : ∀ ds d, R__law_fixed_by ds d → ds.length = 1 := by rintro ds d ⟨_, rfl, _⟩; rfl
theorem len__law_part_by  : ∀ ds d, R__law_part_by ds d → ds.length = 1 := by rintro ds d ⟨_, rfl, _⟩; rfl
theorem len__law_label_by  : ∀ ds d, R__law_label_by ds d → ds.length = 1 := by rintro ds d ⟨_, rfl, _⟩; rfl
theorem len__law_plain_item  : ∀ ds d, R__law_plain_item ds d → ds.length = 1 := by rintro ds d ⟨_, rfl, _⟩; rfl
theorem len__law_item_by  : ∀ ds d, R__law_item_by ds d → ds.length = 2 := by rintro ds d ⟨_, _, rfl, _⟩; rfl
theorem len__law_word_text  : ∀ ds d, R__law_word_text ds d → ds.length = 1 := by rintro ds d ⟨_, rfl, _⟩; rfl
theorem len_itx0  : ∀ ds d, R_itx0 ds d → ds.length = 1 := by rintro ds d ⟨_, _, rfl, _⟩; rfl
theorem len_itx  : ∀ ds d, R_itx ds d → ds.length = 1 := by rintro ds d ⟨_, _, rfl, _⟩; rfl
theorem len__law_size  : ∀ ds d, R__law_size ds d → ds.length = 1 := by rintro ds d ⟨_, rfl, _⟩; rfl
theorem len__law_rows  : ∀ ds d, R_rows ds d → ds.length = 1 := by rintro ds d ⟨_, _, rfl, _⟩; rfl
theorem len_law  : ∀ ds d, R_law ds d → ds.length = 1 := by rintro ds d ⟨_, rfl, _⟩; rfl
theorem len_need_name {X : Addr} : ∀ ds d, R_need_name X ds d → ds.length = 1 := by rintro ds d ⟨_, rfl, _⟩; rfl
theorem len_Part {c : Cs} {X : Addr} : ∀ ds d, R_Part c X ds d → ds.length = 1 := by rintro ds d ⟨_, rfl, _⟩; rfl
theorem len_Word {c : Cs} {X : Addr} : ∀ ds d, R_Word c X ds d → ds.length = 1 := by rintro ds d ⟨_, rfl, _⟩; rfl
theorem len_Maybe {c : Cs} {X : Addr} : ∀ ds d, R_Maybe c X ds d → ds.length = 1 := by rintro ds d ⟨_, rfl, _⟩; rfl
theorem len_Again {c : Cs} {X : Addr} : ∀ ds d, R_Again c X ds d → ds.length = 2 := by rintro ds d ⟨_, _, rfl, _⟩; rfl
theorem len_Part_told {c : Cs} : ∀ ds d, R_Part_told c ds d → ds.length = 1 := by rintro ds d ⟨_, rfl, _⟩; rfl
theorem len_Word_told {c : Cs} : ∀ ds d, R_Word_told c ds d → ds.length = 1 := by rintro ds d ⟨_, rfl, _⟩; rfl
theorem len_Maybe_told {c : Cs} : ∀ ds d, R_Maybe_told c ds d → ds.length = 1 := by rintro ds d ⟨_, rfl, _⟩; rfl
theorem len_Again_told {c : Cs} : ∀ ds d, R_Again_told c ds d → ds.length = 1 := by rintro ds d ⟨_, _, rfl, _⟩; rfl
theorem len_Part_text {c : Cs} : ∀ ds d, R_Part_text c ds d → ds.length = 1 := by rintro ds d ⟨_, rfl, _⟩; rfl
theorem len_Word_text {c : Cs} : ∀ ds d, R_Word_text c ds d → ds.length = 1 := by rintro ds d ⟨_, rfl, _⟩; rfl
theorem len_Maybe_text {c : Cs} : ∀ ds d, R_Maybe_text c ds d → ds.length = 1 := by rintro ds d ⟨_, rfl, _⟩; rfl
theorem len_Again_text {c : Cs} : ∀ ds d, R_Again_text c ds d → ds.length = 1 := by rintro ds d ⟨_, _, rfl, _⟩; rfl
theorem len_need_inner {c : Cs} {X : Addr} : ∀ ds d, R_need_inner c X ds d → ds.length = 1 := by rintro ds d ⟨_, rfl, _⟩; rfl
theorem len_all_texts {c : Cs} : ∀ ds d, R_all_texts c ds d → ds.length = 1 := by rintro ds d ⟨_, rfl, _⟩; rfl
theorem len_made0 {c : Cs} : ∀ ds d, R_made0 c ds d → ds.length = 1 := by rintro ds d ⟨_, _, rfl, _⟩; rfl
theorem len_made {c : Cs} : ∀ ds d, R_made c ds d → ds.length = 1 := by rintro ds d ⟨_, _, rfl, _⟩; rfl
theorem len_inner0 {c : Cs} : ∀ ds d, R_inner0 c ds d → ds.length = 1 := by rintro ds d ⟨_, rfl, _⟩; rfl
theorem len_innerM {c : Cs} : ∀ ds d, R_innerM c ds d → ds.length = 1 := by rintro ds d ⟨_, rfl, _⟩; rfl
theorem len_innerA {c : Cs} : ∀ ds d, R_innerA c ds d → ds.length = 1 := by rintro ds d ⟨_, _, rfl, _⟩; rfl
theorem len_size {c : Cs} : ∀ ds d, R_size c ds d → ds.length = 1 := by rintro ds d ⟨_, rfl, _⟩; rfl
theorem len_need {X : Addr} : ∀ ds d, R_need X ds d → ds.length = 1 := by rintro ds d ⟨_, rfl, _⟩; rfl
theorem len_need_level {X : Addr} : ∀ ds d, R_need_level X ds d → ds.length = 2 := by rintro ds d ⟨_, _, _, rfl, _⟩; rfl
theorem len_Choice {c : Cs} {g : Cg}{X : Addr} : ∀ ds d, R_Choice c g X ds d → ds.length = 3 := by rintro ds d ⟨_, _, rfl, _⟩; rfl
theorem len_Joins {g : Cg}{X : Addr} : ∀ ds d, R_Joins g X ds d → ds.length = 4 := by rintro ds d ⟨_, _, _, _, rfl, _⟩; rfl
theorem len_Grammar {c : Cs} {g : Cg}{X : Addr} : ∀ ds d, R_Grammar c g X ds d → ds.length = 3 := by rintro ds d ⟨_, _, _, rfl, _⟩; rfl
theorem len_choice_text {c : Cs} {g : Cg} : ∀ ds d, R_choice_text c g ds d → ds.length = 1 := by rintro ds d ⟨_, rfl, _⟩; rfl
theorem len_joins_text {g : Cg} : ∀ ds d, R_joins_text g ds d → ds.length = 1 := by rintro ds d ⟨_, rfl, _⟩; rfl
theorem len_written {c : Cs} {g : Cg} : ∀ ds d, R_written c g ds d → ds.length = 1 := by rintro ds d ⟨_, rfl, _⟩; rfl
theorem len__law_made {c : Cs} {g : Cg} : ∀ ds d, R_gmade c g ds d → ds.length = 1 := by rintro ds d ⟨_, _, rfl, _⟩; rfl
theorem len__law_told {c : Cs} {g : Cg} : ∀ ds d, R_gtold c g ds d → ds.length = 1 := by rintro ds d ⟨_, _, rfl, _⟩; rfl
theorem len__law_joins_by  : ∀ ds, D_joins_by ds → ds.length = 3 := by rintro ds ⟨_, _, _, rfl, _⟩; rfl
theorem len__law_grammar_by  : ∀ ds, D_grammar_by ds → ds.length = 3 := by rintro ds ⟨_, _, _, rfl, _⟩; rfl
def spLaw (K : PySem.W.Frag) : Sp := fun vs H Q _ => ∃ (a : Addr) (ns : List Int), vs = [.ref a] ∧ SqL K H a (ns.map V.int) ∧ ns.length ≤ 63 ∧ ∀ H', Q (.bl true) H'
set_option maxHeartbeats 4000000 in
theorem all_mk {l : PySem.W.OpenLaw} {w : World} {K : PySem.W.Frag} {h : Heap} {mg : Str → Option Value} {fa : Addr} (X : K.In h) (G : h.Ns mainGlobals mg) (hfa : mg "law" = some (.ref fa))
    {x_Part : Addr}
    {x_Word : Addr}
    {x_Maybe : Addr}
    {x_Again : Addr}
    {x_Choice : Addr}
    {x_Joins : Addr}
    {x_Grammar : Addr}
    {x_Item : Addr}
    {x_NoGrammar : Addr}
    {od_is_of an_is_of : Option Addr} {sl_is_of : Array (Option Value)} {oc_is_of kV_is_of dc_is_of pm_is_of cd_is_of ct_is_of : Value} {f_is_of : Addr}
    {od_is_fixed an_is_fixed : Option Addr} {sl_is_fixed : Array (Option Value)} {oc_is_fixed kV_is_fixed dc_is_fixed pm_is_fixed cd_is_fixed ct_is_fixed : Value} {f_is_fixed : Addr}
    {od_is_kind an_is_kind : Option Addr} {sl_is_kind : Array (Option Value)} {oc_is_kind kV_is_kind dc_is_kind pm_is_kind cd_is_kind ct_is_kind : Value} {f_is_kind : Addr}
    {ga_OPEN : Addr} {go_OPEN : Option Addr} {gn_OPEN : Nat} {gs_OPEN : Array (Option Value)}
    {od_fixed_of an_fixed_of : Option Addr} {sl_fixed_of : Array (Option Value)} {oc_fixed_of kV_fixed_of dc_fixed_of pm_fixed_of cd_fixed_of ct_fixed_of : Value} {f_fixed_of : Addr}
    {od_is_name an_is_name : Option Addr} {sl_is_name : Array (Option Value)} {oc_is_name kV_is_name dc_is_name pm_is_name cd_is_name ct_is_name : Value} {f_is_name : Addr}
    {ga_KEPT : Addr} {go_KEPT : Option Addr} {gn_KEPT : Nat} {gs_KEPT : Array (Option Value)}
    {od_need_name an_need_name : Option Addr} {sl_need_name : Array (Option Value)} {oc_need_name kV_need_name dc_need_name pm_need_name cd_need_name ct_need_name : Value} {f_need_name : Addr}
    {od_quoted an_quoted : Option Addr} {sl_quoted : Array (Option Value)} {oc_quoted kV_quoted dc_quoted pm_quoted cd_quoted ct_quoted : Value} {f_quoted : Addr}
    {od_Part___init__ an_Part___init__ : Option Addr} {sl_Part___init__ : Array (Option Value)} {oc_Part___init__ kV_Part___init__ dc_Part___init__ pm_Part___init__ cd_Part___init__ ct_Part___init__ : Value} {f_Part___init__ : Addr}
    {od_Word___init__ an_Word___init__ : Option Addr} {sl_Word___init__ : Array (Option Value)} {oc_Word___init__ kV_Word___init__ dc_Word___init__ pm_Word___init__ cd_Word___init__ ct_Word___init__ : Value} {f_Word___init__ : Addr}
    {od_need_inner an_need_inner : Option Addr} {sl_need_inner : Array (Option Value)} {oc_need_inner kV_need_inner dc_need_inner pm_need_inner cd_need_inner ct_need_inner : Value} {f_need_inner : Addr}
    {od_Maybe___init__ an_Maybe___init__ : Option Addr} {sl_Maybe___init__ : Array (Option Value)} {oc_Maybe___init__ kV_Maybe___init__ dc_Maybe___init__ pm_Maybe___init__ cd_Maybe___init__ ct_Maybe___init__ : Value} {f_Maybe___init__ : Addr}
    {od_Again___init__ an_Again___init__ : Option Addr} {sl_Again___init__ : Array (Option Value)} {oc_Again___init__ kV_Again___init__ dc_Again___init__ pm_Again___init__ cd_Again___init__ ct_Again___init__ : Value} {f_Again___init__ dT_Again___init__ : Addr} {dO_Again___init__ : Option Addr} {dN_Again___init__ : Nat} {dS_Again___init__ : Array (Option Value)}
    {od_Part_told an_Part_told : Option Addr} {sl_Part_told : Array (Option Value)} {oc_Part_told kV_Part_told dc_Part_told pm_Part_told cd_Part_told ct_Part_told : Value} {f_Part_told : Addr}
    {od_Word_told an_Word_told : Option Addr} {sl_Word_told : Array (Option Value)} {oc_Word_told kV_Word_told dc_Word_told pm_Word_told cd_Word_told ct_Word_told : Value} {f_Word_told : Addr}
    {od_Part_text an_Part_text : Option Addr} {sl_Part_text : Array (Option Value)} {oc_Part_text kV_Part_text dc_Part_text pm_Part_text cd_Part_text ct_Part_text : Value} {f_Part_text : Addr}
    {od_Word_text an_Word_text : Option Addr} {sl_Word_text : Array (Option Value)} {oc_Word_text kV_Word_text dc_Word_text pm_Word_text cd_Word_text ct_Word_text : Value} {f_Word_text : Addr}
    {od_Maybe_told an_Maybe_told : Option Addr} {sl_Maybe_told : Array (Option Value)} {oc_Maybe_told kV_Maybe_told dc_Maybe_told pm_Maybe_told cd_Maybe_told ct_Maybe_told : Value} {f_Maybe_told : Addr}
    {od_Again_told an_Again_told : Option Addr} {sl_Again_told : Array (Option Value)} {oc_Again_told kV_Again_told dc_Again_told pm_Again_told cd_Again_told ct_Again_told : Value} {f_Again_told : Addr}
    {od_all_texts an_all_texts : Option Addr} {sl_all_texts : Array (Option Value)} {oc_all_texts kV_all_texts dc_all_texts pm_all_texts cd_all_texts ct_all_texts : Value} {f_all_texts : Addr}
    {od_Maybe_text an_Maybe_text : Option Addr} {sl_Maybe_text : Array (Option Value)} {oc_Maybe_text kV_Maybe_text dc_Maybe_text pm_Maybe_text cd_Maybe_text ct_Maybe_text : Value} {f_Maybe_text : Addr}
    {od_Again_text an_Again_text : Option Addr} {sl_Again_text : Array (Option Value)} {oc_Again_text kV_Again_text dc_Again_text pm_Again_text cd_Again_text ct_Again_text : Value} {f_Again_text : Addr}
    {od__law_cell an__law_cell : Option Addr} {sl__law_cell : Array (Option Value)} {oc__law_cell kV__law_cell dc__law_cell pm__law_cell cd__law_cell ct__law_cell : Value} {f__law_cell : Addr}
    {od__law_signs an__law_signs : Option Addr} {sl__law_signs : Array (Option Value)} {oc__law_signs kV__law_signs dc__law_signs pm__law_signs cd__law_signs ct__law_signs : Value} {f__law_signs : Addr}
    {od__law_fixed_by an__law_fixed_by : Option Addr} {sl__law_fixed_by : Array (Option Value)} {oc__law_fixed_by kV__law_fixed_by dc__law_fixed_by pm__law_fixed_by cd__law_fixed_by ct__law_fixed_by : Value} {f__law_fixed_by : Addr}
    {od__law_part_by an__law_part_by : Option Addr} {sl__law_part_by : Array (Option Value)} {oc__law_part_by kV__law_part_by dc__law_part_by pm__law_part_by cd__law_part_by ct__law_part_by : Value} {f__law_part_by : Addr}
    {od__law_plain_item an__law_plain_item : Option Addr} {sl__law_plain_item : Array (Option Value)} {oc__law_plain_item kV__law_plain_item dc__law_plain_item pm__law_plain_item cd__law_plain_item ct__law_plain_item : Value} {f__law_plain_item : Addr}
    {od__law_item_by an__law_item_by : Option Addr} {sl__law_item_by : Array (Option Value)} {oc__law_item_by kV__law_item_by dc__law_item_by pm__law_item_by cd__law_item_by ct__law_item_by : Value} {f__law_item_by : Addr}
    {od__law_word_text an__law_word_text : Option Addr} {sl__law_word_text : Array (Option Value)} {oc__law_word_text kV__law_word_text dc__law_word_text pm__law_word_text cd__law_word_text ct__law_word_text : Value} {f__law_word_text : Addr}
    {od__law_made_item an__law_made_item : Option Addr} {sl__law_made_item : Array (Option Value)} {oc__law_made_item kV__law_made_item dc__law_made_item pm__law_made_item cd__law_made_item ct__law_made_item : Value} {f__law_made_item : Addr}
    {od__law_item_text an__law_item_text : Option Addr} {sl__law_item_text : Array (Option Value)} {oc__law_item_text kV__law_item_text dc__law_item_text pm__law_item_text cd__law_item_text ct__law_item_text : Value} {f__law_item_text : Addr}
    {od_Item_inner an_Item_inner : Option Addr} {sl_Item_inner : Array (Option Value)} {oc_Item_inner kV_Item_inner dc_Item_inner pm_Item_inner cd_Item_inner ct_Item_inner : Value} {f_Item_inner : Addr}
    {od_Maybe_inner an_Maybe_inner : Option Addr} {sl_Maybe_inner : Array (Option Value)} {oc_Maybe_inner kV_Maybe_inner dc_Maybe_inner pm_Maybe_inner cd_Maybe_inner ct_Maybe_inner : Value} {f_Maybe_inner : Addr}
    {od_Again_inner an_Again_inner : Option Addr} {sl_Again_inner : Array (Option Value)} {oc_Again_inner kV_Again_inner dc_Again_inner pm_Again_inner cd_Again_inner ct_Again_inner : Value} {f_Again_inner : Addr}
    {od_Item_size an_Item_size : Option Addr} {sl_Item_size : Array (Option Value)} {oc_Item_size kV_Item_size dc_Item_size pm_Item_size cd_Item_size ct_Item_size : Value} {f_Item_size : Addr}
    {od_need an_need : Option Addr} {sl_need : Array (Option Value)} {oc_need kV_need dc_need pm_need cd_need ct_need : Value} {f_need : Addr}
    {od_need_level an_need_level : Option Addr} {sl_need_level : Array (Option Value)} {oc_need_level kV_need_level dc_need_level pm_need_level cd_need_level ct_need_level : Value} {f_need_level : Addr}
    {ga_WAYS : Addr} {go_WAYS : Option Addr} {gn_WAYS : Nat} {gs_WAYS : Array (Option Value)}
    {od_place_of an_place_of : Option Addr} {sl_place_of : Array (Option Value)} {oc_place_of kV_place_of dc_place_of pm_place_of cd_place_of ct_place_of : Value} {f_place_of : Addr}
    {ga_BETWEEN : Addr} {go_BETWEEN : Option Addr} {gn_BETWEEN : Nat} {gs_BETWEEN : Array (Option Value)}
    {od_Choice___init__ an_Choice___init__ : Option Addr} {sl_Choice___init__ : Array (Option Value)} {oc_Choice___init__ kV_Choice___init__ dc_Choice___init__ pm_Choice___init__ cd_Choice___init__ ct_Choice___init__ : Value} {f_Choice___init__ : Addr}
    {od_Joins___init__ an_Joins___init__ : Option Addr} {sl_Joins___init__ : Array (Option Value)} {oc_Joins___init__ kV_Joins___init__ dc_Joins___init__ pm_Joins___init__ cd_Joins___init__ ct_Joins___init__ : Value} {f_Joins___init__ : Addr}
    {od_Grammar___init__ an_Grammar___init__ : Option Addr} {sl_Grammar___init__ : Array (Option Value)} {oc_Grammar___init__ kV_Grammar___init__ dc_Grammar___init__ pm_Grammar___init__ cd_Grammar___init__ ct_Grammar___init__ : Value} {f_Grammar___init__ : Addr}
    {od_choice_text an_choice_text : Option Addr} {sl_choice_text : Array (Option Value)} {oc_choice_text kV_choice_text dc_choice_text pm_choice_text cd_choice_text ct_choice_text : Value} {f_choice_text : Addr}
    {od_joins_text an_joins_text : Option Addr} {sl_joins_text : Array (Option Value)} {oc_joins_text kV_joins_text dc_joins_text pm_joins_text cd_joins_text ct_joins_text : Value} {f_joins_text : Addr}
    {od_written an_written : Option Addr} {sl_written : Array (Option Value)} {oc_written kV_written dc_written pm_written cd_written ct_written : Value} {f_written : Addr}
    {od__law_label_by an__law_label_by : Option Addr} {sl__law_label_by : Array (Option Value)} {oc__law_label_by kV__law_label_by dc__law_label_by pm__law_label_by cd__law_label_by ct__law_label_by : Value} {f__law_label_by : Addr}
    {od__law_joins_by an__law_joins_by : Option Addr} {sl__law_joins_by : Array (Option Value)} {oc__law_joins_by kV__law_joins_by dc__law_joins_by pm__law_joins_by cd__law_joins_by ct__law_joins_by : Value} {f__law_joins_by : Addr}
    {od__law_size an__law_size : Option Addr} {sl__law_size : Array (Option Value)} {oc__law_size kV__law_size dc__law_size pm__law_size cd__law_size ct__law_size : Value} {f__law_size : Addr}
    {od__law_grammar_by an__law_grammar_by : Option Addr} {sl__law_grammar_by : Array (Option Value)} {oc__law_grammar_by kV__law_grammar_by dc__law_grammar_by pm__law_grammar_by cd__law_grammar_by ct__law_grammar_by : Value} {f__law_grammar_by : Addr}
    {od__law_made an__law_made : Option Addr} {sl__law_made : Array (Option Value)} {oc__law_made kV__law_made dc__law_made pm__law_made cd__law_made ct__law_made : Value} {f__law_made : Addr}
    {od__law_told an__law_told : Option Addr} {sl__law_told : Array (Option Value)} {oc__law_told kV__law_told dc__law_told pm__law_told cd__law_told ct__law_told : Value} {f__law_told : Addr}
    {od__law_rows an__law_rows : Option Addr} {sl__law_rows : Array (Option Value)} {oc__law_rows kV__law_rows dc__law_rows pm__law_rows cd__law_rows ct__law_rows : Value} {f__law_rows : Addr}
    {od_law an_law : Option Addr} {sl_law : Array (Option Value)} {oc_law kV_law dc_law pm_law cd_law ct_law : Value} {f_law : Addr} {tk1 tk2 tk3 tk4 tk5 tk6 tk7 tk8 tk9 tk10 tk11 tk12 tk13 tk14 tk15 tk16 tk17 tk18 tk19 tk20 tk21 tk22 tk23 tk24 tk25 tk26 tk27 tk28 tk29 : Tok}
    (n_Part : PySem.W.nsIn K mainGlobals "Part" = some (some (.ref x_Part)))
    (pg_Part : PySem.W.plainGet K x_Part Str.empty = true)
    (hd_Part : PySem.W.hasDictIn K x_Part = true)
    (po_Part : PySem.W.plainOver K x_Part = true)
    (sa_Part : PySem.W.findIn K (.ref x_Part) "__setattr__" = some (some (.builtin "object.__setattr__")))
    (cc_Part : PySem.W.findIn K (.ref x_Part) "__class__" = some (some (.builtin "object.__class__")))
    (cn : PySem.W.specialIn K (.builtin "object.__class__") "__get__" = some (some (.builtin "getset_descriptor.__get__")))
    (ct : PySem.W.takesIn K (.builtin "object.__class__") = some true)
    (mo_Part : PySem.W.mroIn K x_Part (.type "object") = some true)
    (kp_Part : PySem.W.keepIn K (.ref x_Part) = true)
    (nf_Part_name : PySem.W.findIn K (.ref x_Part) "name" = some none)
    (n_Word : PySem.W.nsIn K mainGlobals "Word" = some (some (.ref x_Word)))
    (pg_Word : PySem.W.plainGet K x_Word Str.empty = true)
    (hd_Word : PySem.W.hasDictIn K x_Word = true)
    (po_Word : PySem.W.plainOver K x_Word = true)
    (sa_Word : PySem.W.findIn K (.ref x_Word) "__setattr__" = some (some (.builtin "object.__setattr__")))
    (cc_Word : PySem.W.findIn K (.ref x_Word) "__class__" = some (some (.builtin "object.__class__")))
    (mo_Word : PySem.W.mroIn K x_Word (.type "object") = some true)
    (kp_Word : PySem.W.keepIn K (.ref x_Word) = true)
    (nf_Word_kind : PySem.W.findIn K (.ref x_Word) "kind" = some none)
    (n_Maybe : PySem.W.nsIn K mainGlobals "Maybe" = some (some (.ref x_Maybe)))
    (pg_Maybe : PySem.W.plainGet K x_Maybe Str.empty = true)
    (hd_Maybe : PySem.W.hasDictIn K x_Maybe = true)
    (po_Maybe : PySem.W.plainOver K x_Maybe = true)
    (sa_Maybe : PySem.W.findIn K (.ref x_Maybe) "__setattr__" = some (some (.builtin "object.__setattr__")))
    (cc_Maybe : PySem.W.findIn K (.ref x_Maybe) "__class__" = some (some (.builtin "object.__class__")))
    (mo_Maybe : PySem.W.mroIn K x_Maybe (.type "object") = some true)
    (kp_Maybe : PySem.W.keepIn K (.ref x_Maybe) = true)
    (nf_Maybe_things : PySem.W.findIn K (.ref x_Maybe) "things" = some none)
    (n_Again : PySem.W.nsIn K mainGlobals "Again" = some (some (.ref x_Again)))
    (pg_Again : PySem.W.plainGet K x_Again Str.empty = true)
    (hd_Again : PySem.W.hasDictIn K x_Again = true)
    (po_Again : PySem.W.plainOver K x_Again = true)
    (sa_Again : PySem.W.findIn K (.ref x_Again) "__setattr__" = some (some (.builtin "object.__setattr__")))
    (cc_Again : PySem.W.findIn K (.ref x_Again) "__class__" = some (some (.builtin "object.__class__")))
    (mo_Again : PySem.W.mroIn K x_Again (.type "object") = some true)
    (kp_Again : PySem.W.keepIn K (.ref x_Again) = true)
    (nf_Again_things : PySem.W.findIn K (.ref x_Again) "things" = some none)
    (nf_Again_between : PySem.W.findIn K (.ref x_Again) "between" = some none)
    (n_Choice : PySem.W.nsIn K mainGlobals "Choice" = some (some (.ref x_Choice)))
    (pg_Choice : PySem.W.plainGet K x_Choice Str.empty = true)
    (hd_Choice : PySem.W.hasDictIn K x_Choice = true)
    (po_Choice : PySem.W.plainOver K x_Choice = true)
    (sa_Choice : PySem.W.findIn K (.ref x_Choice) "__setattr__" = some (some (.builtin "object.__setattr__")))
    (cc_Choice : PySem.W.findIn K (.ref x_Choice) "__class__" = some (some (.builtin "object.__class__")))
    (mo_Choice : PySem.W.mroIn K x_Choice (.type "object") = some true)
    (kp_Choice : PySem.W.keepIn K (.ref x_Choice) = true)
    (nf_Choice_part : PySem.W.findIn K (.ref x_Choice) "part" = some none)
    (nf_Choice_label : PySem.W.findIn K (.ref x_Choice) "label" = some none)
    (nf_Choice_things : PySem.W.findIn K (.ref x_Choice) "things" = some none)
    (n_Joins : PySem.W.nsIn K mainGlobals "Joins" = some (some (.ref x_Joins)))
    (pg_Joins : PySem.W.plainGet K x_Joins Str.empty = true)
    (hd_Joins : PySem.W.hasDictIn K x_Joins = true)
    (po_Joins : PySem.W.plainOver K x_Joins = true)
    (sa_Joins : PySem.W.findIn K (.ref x_Joins) "__setattr__" = some (some (.builtin "object.__setattr__")))
    (cc_Joins : PySem.W.findIn K (.ref x_Joins) "__class__" = some (some (.builtin "object.__class__")))
    (mo_Joins : PySem.W.mroIn K x_Joins (.type "object") = some true)
    (kp_Joins : PySem.W.keepIn K (.ref x_Joins) = true)
    (nf_Joins_part : PySem.W.findIn K (.ref x_Joins) "part" = some none)
    (nf_Joins_of : PySem.W.findIn K (.ref x_Joins) "of" = some none)
    (nf_Joins_brackets : PySem.W.findIn K (.ref x_Joins) "brackets" = some none)
    (nf_Joins_levels : PySem.W.findIn K (.ref x_Joins) "levels" = some none)
    (n_Grammar : PySem.W.nsIn K mainGlobals "Grammar" = some (some (.ref x_Grammar)))
    (pg_Grammar : PySem.W.plainGet K x_Grammar Str.empty = true)
    (hd_Grammar : PySem.W.hasDictIn K x_Grammar = true)
    (po_Grammar : PySem.W.plainOver K x_Grammar = true)
    (sa_Grammar : PySem.W.findIn K (.ref x_Grammar) "__setattr__" = some (some (.builtin "object.__setattr__")))
    (cc_Grammar : PySem.W.findIn K (.ref x_Grammar) "__class__" = some (some (.builtin "object.__class__")))
    (mo_Grammar : PySem.W.mroIn K x_Grammar (.type "object") = some true)
    (kp_Grammar : PySem.W.keepIn K (.ref x_Grammar) = true)
    (nf_Grammar_start : PySem.W.findIn K (.ref x_Grammar) "start" = some none)
    (nf_Grammar_choices : PySem.W.findIn K (.ref x_Grammar) "choices" = some none)
    (nf_Grammar_joins : PySem.W.findIn K (.ref x_Grammar) "joins" = some none)
    (n_Item : PySem.W.nsIn K mainGlobals "Item" = some (some (.ref x_Item)))
    (n_NoGrammar : PySem.W.nsIn K mainGlobals "NoGrammar" = some (some (.ref x_NoGrammar)))
    (sb_NoGrammar : PySem.W.subIn K (.ref x_NoGrammar) (.type "BaseException") = some true)
    (ty_NoGrammar : PySem.W.typeIn K (.ref x_NoGrammar) = some (.type "type"))
    (hd_c_NoGrammar : PySem.W.hasDictIn K x_NoGrammar = true)
    (kp_NoGrammar : PySem.W.keepIn K (.ref x_NoGrammar) = true)
    (ga_NoGrammar : PySem.W.findIn K (.ref x_NoGrammar) "__getattribute__" = some (some (.builtin "BaseException.__getattribute__")))
    (gg_NoGrammar : PySem.W.findIn K (.ref x_NoGrammar) "__getattr__" = some none)
    (xq_NoGrammar : PySem.W.excIn K x_NoGrammar [.type "ValueError", .type "Exception", .type "BaseException", .type "object"] "ValueError.__new__" = true)
    (ki_Part_Part : PySem.W.kitOne K (.ref x_Part) (.ref x_Part) = some true)
    (ki_Part_Word : PySem.W.kitOne K (.ref x_Part) (.ref x_Word) = some false)
    (ki_Part_Maybe : PySem.W.kitOne K (.ref x_Part) (.ref x_Maybe) = some false)
    (ki_Part_Again : PySem.W.kitOne K (.ref x_Part) (.ref x_Again) = some false)
    (ki_Part_Item : PySem.W.kitOne K (.ref x_Part) (.ref x_Item) = some true)
    (ki_Word_Part : PySem.W.kitOne K (.ref x_Word) (.ref x_Part) = some false)
    (ki_Word_Word : PySem.W.kitOne K (.ref x_Word) (.ref x_Word) = some true)
    (ki_Word_Maybe : PySem.W.kitOne K (.ref x_Word) (.ref x_Maybe) = some false)
    (ki_Word_Again : PySem.W.kitOne K (.ref x_Word) (.ref x_Again) = some false)
    (ki_Word_Item : PySem.W.kitOne K (.ref x_Word) (.ref x_Item) = some true)
    (ki_Maybe_Part : PySem.W.kitOne K (.ref x_Maybe) (.ref x_Part) = some false)
    (ki_Maybe_Word : PySem.W.kitOne K (.ref x_Maybe) (.ref x_Word) = some false)
    (ki_Maybe_Maybe : PySem.W.kitOne K (.ref x_Maybe) (.ref x_Maybe) = some true)
    (ki_Maybe_Again : PySem.W.kitOne K (.ref x_Maybe) (.ref x_Again) = some false)
    (ki_Maybe_Item : PySem.W.kitOne K (.ref x_Maybe) (.ref x_Item) = some true)
    (ki_Again_Part : PySem.W.kitOne K (.ref x_Again) (.ref x_Part) = some false)
    (ki_Again_Word : PySem.W.kitOne K (.ref x_Again) (.ref x_Word) = some false)
    (ki_Again_Maybe : PySem.W.kitOne K (.ref x_Again) (.ref x_Maybe) = some false)
    (ki_Again_Again : PySem.W.kitOne K (.ref x_Again) (.ref x_Again) = some true)
    (ki_Again_Item : PySem.W.kitOne K (.ref x_Again) (.ref x_Item) = some true)
    (a_is_of : PySem.W.nsIn K mainGlobals "is_of" = some (some (.ref f_is_of)))
    (l_is_of : K.lookup f_is_of = some ⟨oc_is_of, od_is_of, .func (PySem.W.fnOf "is_of" "is_of" (defArgs s_is_of) (defBody s_is_of) (defScope s_is_of) .none kV_is_of dc_is_of pm_is_of an_is_of cd_is_of ct_is_of), sl_is_of⟩)
    (c_is_of : PySem.W.codeIn K cd_is_of "is_of" = true)
    (k_is_of : PySem.W.keepIn K (.ref f_is_of) = true)
    (z_len : PySem.W.nsIn K mainGlobals "len" = some none)
    (z_all : PySem.W.nsIn K mainGlobals "all" = some none)
    (a_is_fixed : PySem.W.nsIn K mainGlobals "is_fixed" = some (some (.ref f_is_fixed)))
    (l_is_fixed : K.lookup f_is_fixed = some ⟨oc_is_fixed, od_is_fixed, .func (PySem.W.fnOf "is_fixed" "is_fixed" (defArgs s_is_fixed) (defBody s_is_fixed) (defScope s_is_fixed) .none kV_is_fixed dc_is_fixed pm_is_fixed an_is_fixed cd_is_fixed ct_is_fixed), sl_is_fixed⟩)
    (c_is_fixed : PySem.W.codeIn K cd_is_fixed "is_fixed" = true)
    (k_is_fixed : PySem.W.keepIn K (.ref f_is_fixed) = true)
    (n_LETTERS : PySem.W.nsIn K mainGlobals "LETTERS" = some (some (.str (Str.ofString "abcdefghijklmnopqrstuvwxyz") tk1)))
    (n_MOST_LETTERS_words : PySem.W.nsIn K mainGlobals "MOST_LETTERS_words" = some (some (.int 8 tk2)))
    (n_SIGNS : PySem.W.nsIn K mainGlobals "SIGNS" = some (some (.str (Str.ofString "!#$&()*+,-./:;<=>?@\x5b]^{|}~") tk3)))
    (n_MOST_SIGNS : PySem.W.nsIn K mainGlobals "MOST_SIGNS" = some (some (.int 3 tk4)))
    (z_isinstance : PySem.W.nsIn K mainGlobals "isinstance" = some none)
    (z_str : PySem.W.nsIn K mainGlobals "str" = some none)
    (a_is_kind : PySem.W.nsIn K mainGlobals "is_kind" = some (some (.ref f_is_kind)))
    (l_is_kind : K.lookup f_is_kind = some ⟨oc_is_kind, od_is_kind, .func (PySem.W.fnOf "is_kind" "is_kind" (defArgs s_is_kind) (defBody s_is_kind) (defScope s_is_kind) .none kV_is_kind dc_is_kind pm_is_kind an_is_kind cd_is_kind ct_is_kind), sl_is_kind⟩)
    (c_is_kind : PySem.W.codeIn K cd_is_kind "is_kind" = true)
    (k_is_kind : PySem.W.keepIn K (.ref f_is_kind) = true)
    (n_OPEN : PySem.W.nsIn K mainGlobals "OPEN" = some (some (.ref ga_OPEN)))
    (o_OPEN : K.lookup ga_OPEN = some ⟨.type "tuple", go_OPEN, .seq #[(.str (Str.ofString "NAME") tk5), (.str (Str.ofString "NUMBER") tk6), (.str (Str.ofString "QUOTE") tk7)] gn_OPEN, gs_OPEN⟩)
    (a_fixed_of : PySem.W.nsIn K mainGlobals "fixed_of" = some (some (.ref f_fixed_of)))
    (l_fixed_of : K.lookup f_fixed_of = some ⟨oc_fixed_of, od_fixed_of, .func (PySem.W.fnOf "fixed_of" "fixed_of" (defArgs s_fixed_of) (defBody s_fixed_of) (defScope s_fixed_of) .none kV_fixed_of dc_fixed_of pm_fixed_of an_fixed_of cd_fixed_of ct_fixed_of), sl_fixed_of⟩)
    (c_fixed_of : PySem.W.codeIn K cd_fixed_of "fixed_of" = true)
    (k_fixed_of : PySem.W.keepIn K (.ref f_fixed_of) = true)
    (a_is_name : PySem.W.nsIn K mainGlobals "is_name" = some (some (.ref f_is_name)))
    (l_is_name : K.lookup f_is_name = some ⟨oc_is_name, od_is_name, .func (PySem.W.fnOf "is_name" "is_name" (defArgs s_is_name) (defBody s_is_name) (defScope s_is_name) .none kV_is_name dc_is_name pm_is_name an_is_name cd_is_name ct_is_name), sl_is_name⟩)
    (c_is_name : PySem.W.codeIn K cd_is_name "is_name" = true)
    (k_is_name : PySem.W.keepIn K (.ref f_is_name) = true)
    (n_MOST_LETTERS_items : PySem.W.nsIn K mainGlobals "MOST_LETTERS_items" = some (some (.int 8 tk8)))
    (n_KEPT : PySem.W.nsIn K mainGlobals "KEPT" = some (some (.ref ga_KEPT)))
    (o_KEPT : K.lookup ga_KEPT = some ⟨.type "tuple", go_KEPT, .seq #[(.str (Str.ofString "start") tk9), (.str (Str.ofString "joins") tk10), (.str (Str.ofString "in") tk11), (.str (Str.ofString "left") tk12), (.str (Str.ofString "right") tk13), (.str (Str.ofString "alone") tk14), (.str (Str.ofString "ahead") tk15), (.str (Str.ofString "behind") tk16)] gn_KEPT, gs_KEPT⟩)
    (a_need_name : PySem.W.nsIn K mainGlobals "need_name" = some (some (.ref f_need_name)))
    (l_need_name : K.lookup f_need_name = some ⟨oc_need_name, od_need_name, .func (PySem.W.fnOf "need_name" "need_name" (defArgs s_need_name) (defBody s_need_name) (defScope s_need_name) .none kV_need_name dc_need_name pm_need_name an_need_name cd_need_name ct_need_name), sl_need_name⟩)
    (c_need_name : PySem.W.codeIn K cd_need_name "need_name" = true)
    (k_need_name : PySem.W.keepIn K (.ref f_need_name) = true)
    (a_quoted : PySem.W.nsIn K mainGlobals "quoted" = some (some (.ref f_quoted)))
    (l_quoted : K.lookup f_quoted = some ⟨oc_quoted, od_quoted, .func (PySem.W.fnOf "quoted" "quoted" (defArgs s_quoted) (defBody s_quoted) (defScope s_quoted) .none kV_quoted dc_quoted pm_quoted an_quoted cd_quoted ct_quoted), sl_quoted⟩)
    (c_quoted : PySem.W.codeIn K cd_quoted "quoted" = true)
    (k_quoted : PySem.W.keepIn K (.ref f_quoted) = true)
    (a_Part___init__ : PySem.W.findIn K (.ref x_Part) "__init__" = some (some (.ref f_Part___init__)))
    (l_Part___init__ : K.lookup f_Part___init__ = some ⟨oc_Part___init__, od_Part___init__, .func (PySem.W.fnOf "__init__" "Part.__init__" (defArgs s_Part___init__) (defBody s_Part___init__) (defScope s_Part___init__) .none kV_Part___init__ dc_Part___init__ pm_Part___init__ an_Part___init__ cd_Part___init__ ct_Part___init__), sl_Part___init__⟩)
    (c_Part___init__ : PySem.W.codeIn K cd_Part___init__ "Part.__init__" = true)
    (k_Part___init__ : PySem.W.keepIn K (.ref f_Part___init__) = true)
    (if_Part___init__ : PySem.W.isFn K (.ref f_Part___init__) = true)
    (mk_Part : PySem.W.makesIn K x_Part = true)
    (a_Word___init__ : PySem.W.findIn K (.ref x_Word) "__init__" = some (some (.ref f_Word___init__)))
    (l_Word___init__ : K.lookup f_Word___init__ = some ⟨oc_Word___init__, od_Word___init__, .func (PySem.W.fnOf "__init__" "Word.__init__" (defArgs s_Word___init__) (defBody s_Word___init__) (defScope s_Word___init__) .none kV_Word___init__ dc_Word___init__ pm_Word___init__ an_Word___init__ cd_Word___init__ ct_Word___init__), sl_Word___init__⟩)
    (c_Word___init__ : PySem.W.codeIn K cd_Word___init__ "Word.__init__" = true)
    (k_Word___init__ : PySem.W.keepIn K (.ref f_Word___init__) = true)
    (if_Word___init__ : PySem.W.isFn K (.ref f_Word___init__) = true)
    (mk_Word : PySem.W.makesIn K x_Word = true)
    (a_need_inner : PySem.W.nsIn K mainGlobals "need_inner" = some (some (.ref f_need_inner)))
    (l_need_inner : K.lookup f_need_inner = some ⟨oc_need_inner, od_need_inner, .func (PySem.W.fnOf "need_inner" "need_inner" (defArgs s_need_inner) (defBody s_need_inner) (defScope s_need_inner) .none kV_need_inner dc_need_inner pm_need_inner an_need_inner cd_need_inner ct_need_inner), sl_need_inner⟩)
    (c_need_inner : PySem.W.codeIn K cd_need_inner "need_inner" = true)
    (k_need_inner : PySem.W.keepIn K (.ref f_need_inner) = true)
    (a_Maybe___init__ : PySem.W.findIn K (.ref x_Maybe) "__init__" = some (some (.ref f_Maybe___init__)))
    (l_Maybe___init__ : K.lookup f_Maybe___init__ = some ⟨oc_Maybe___init__, od_Maybe___init__, .func (PySem.W.fnOf "__init__" "Maybe.__init__" (defArgs s_Maybe___init__) (defBody s_Maybe___init__) (defScope s_Maybe___init__) .none kV_Maybe___init__ dc_Maybe___init__ pm_Maybe___init__ an_Maybe___init__ cd_Maybe___init__ ct_Maybe___init__), sl_Maybe___init__⟩)
    (c_Maybe___init__ : PySem.W.codeIn K cd_Maybe___init__ "Maybe.__init__" = true)
    (k_Maybe___init__ : PySem.W.keepIn K (.ref f_Maybe___init__) = true)
    (if_Maybe___init__ : PySem.W.isFn K (.ref f_Maybe___init__) = true)
    (mk_Maybe : PySem.W.makesIn K x_Maybe = true)
    (z_tuple : PySem.W.nsIn K mainGlobals "tuple" = some none)
    (a_Again___init__ : PySem.W.findIn K (.ref x_Again) "__init__" = some (some (.ref f_Again___init__)))
    (l_Again___init__ : K.lookup f_Again___init__ = some ⟨oc_Again___init__, od_Again___init__, .func (PySem.W.fnOf "__init__" "Again.__init__" (defArgs s_Again___init__) (defBody s_Again___init__) (defScope s_Again___init__) (.ref dT_Again___init__) kV_Again___init__ dc_Again___init__ pm_Again___init__ an_Again___init__ cd_Again___init__ ct_Again___init__), sl_Again___init__⟩)
    (dt_Again___init__ : K.lookup dT_Again___init__ = some ⟨.type "tuple", dO_Again___init__, .seq #[.none] dN_Again___init__, dS_Again___init__⟩)
    (c_Again___init__ : PySem.W.codeIn K cd_Again___init__ "Again.__init__" = true)
    (k_Again___init__ : PySem.W.keepIn K (.ref f_Again___init__) = true)
    (if_Again___init__ : PySem.W.isFn K (.ref f_Again___init__) = true)
    (mk_Again : PySem.W.makesIn K x_Again = true)
    (a_Part_told : PySem.W.findIn K (.ref x_Part) "told" = some (some (.ref f_Part_told)))
    (l_Part_told : K.lookup f_Part_told = some ⟨oc_Part_told, od_Part_told, .func (PySem.W.fnOf "told" "Part.told" (defArgs s_Part_told) (defBody s_Part_told) (defScope s_Part_told) .none kV_Part_told dc_Part_told pm_Part_told an_Part_told cd_Part_told ct_Part_told), sl_Part_told⟩)
    (c_Part_told : PySem.W.codeIn K cd_Part_told "Part.told" = true)
    (k_Part_told : PySem.W.keepIn K (.ref f_Part_told) = true)
    (if_Part_told : PySem.W.isFn K (.ref f_Part_told) = true)
    (a_Word_told : PySem.W.findIn K (.ref x_Word) "told" = some (some (.ref f_Word_told)))
    (l_Word_told : K.lookup f_Word_told = some ⟨oc_Word_told, od_Word_told, .func (PySem.W.fnOf "told" "Word.told" (defArgs s_Word_told) (defBody s_Word_told) (defScope s_Word_told) .none kV_Word_told dc_Word_told pm_Word_told an_Word_told cd_Word_told ct_Word_told), sl_Word_told⟩)
    (c_Word_told : PySem.W.codeIn K cd_Word_told "Word.told" = true)
    (k_Word_told : PySem.W.keepIn K (.ref f_Word_told) = true)
    (if_Word_told : PySem.W.isFn K (.ref f_Word_told) = true)
    (a_Part_text : PySem.W.findIn K (.ref x_Part) "text" = some (some (.ref f_Part_text)))
    (l_Part_text : K.lookup f_Part_text = some ⟨oc_Part_text, od_Part_text, .func (PySem.W.fnOf "text" "Part.text" (defArgs s_Part_text) (defBody s_Part_text) (defScope s_Part_text) .none kV_Part_text dc_Part_text pm_Part_text an_Part_text cd_Part_text ct_Part_text), sl_Part_text⟩)
    (c_Part_text : PySem.W.codeIn K cd_Part_text "Part.text" = true)
    (k_Part_text : PySem.W.keepIn K (.ref f_Part_text) = true)
    (if_Part_text : PySem.W.isFn K (.ref f_Part_text) = true)
    (a_Word_text : PySem.W.findIn K (.ref x_Word) "text" = some (some (.ref f_Word_text)))
    (l_Word_text : K.lookup f_Word_text = some ⟨oc_Word_text, od_Word_text, .func (PySem.W.fnOf "text" "Word.text" (defArgs s_Word_text) (defBody s_Word_text) (defScope s_Word_text) .none kV_Word_text dc_Word_text pm_Word_text an_Word_text cd_Word_text ct_Word_text), sl_Word_text⟩)
    (c_Word_text : PySem.W.codeIn K cd_Word_text "Word.text" = true)
    (k_Word_text : PySem.W.keepIn K (.ref f_Word_text) = true)
    (if_Word_text : PySem.W.isFn K (.ref f_Word_text) = true)
    (a_Maybe_told : PySem.W.findIn K (.ref x_Maybe) "told" = some (some (.ref f_Maybe_told)))
    (l_Maybe_told : K.lookup f_Maybe_told = some ⟨oc_Maybe_told, od_Maybe_told, .func (PySem.W.fnOf "told" "Maybe.told" (defArgs s_Maybe_told) (defBody s_Maybe_told) (defScope s_Maybe_told) .none kV_Maybe_told dc_Maybe_told pm_Maybe_told an_Maybe_told cd_Maybe_told ct_Maybe_told), sl_Maybe_told⟩)
    (c_Maybe_told : PySem.W.codeIn K cd_Maybe_told "Maybe.told" = true)
    (k_Maybe_told : PySem.W.keepIn K (.ref f_Maybe_told) = true)
    (if_Maybe_told : PySem.W.isFn K (.ref f_Maybe_told) = true)
    (a_Again_told : PySem.W.findIn K (.ref x_Again) "told" = some (some (.ref f_Again_told)))
    (l_Again_told : K.lookup f_Again_told = some ⟨oc_Again_told, od_Again_told, .func (PySem.W.fnOf "told" "Again.told" (defArgs s_Again_told) (defBody s_Again_told) (defScope s_Again_told) .none kV_Again_told dc_Again_told pm_Again_told an_Again_told cd_Again_told ct_Again_told), sl_Again_told⟩)
    (c_Again_told : PySem.W.codeIn K cd_Again_told "Again.told" = true)
    (k_Again_told : PySem.W.keepIn K (.ref f_Again_told) = true)
    (if_Again_told : PySem.W.isFn K (.ref f_Again_told) = true)
    (a_all_texts : PySem.W.nsIn K mainGlobals "all_texts" = some (some (.ref f_all_texts)))
    (l_all_texts : K.lookup f_all_texts = some ⟨oc_all_texts, od_all_texts, .func (PySem.W.fnOf "all_texts" "all_texts" (defArgs s_all_texts) (defBody s_all_texts) (defScope s_all_texts) .none kV_all_texts dc_all_texts pm_all_texts an_all_texts cd_all_texts ct_all_texts), sl_all_texts⟩)
    (c_all_texts : PySem.W.codeIn K cd_all_texts "all_texts" = true)
    (k_all_texts : PySem.W.keepIn K (.ref f_all_texts) = true)
    (a_Maybe_text : PySem.W.findIn K (.ref x_Maybe) "text" = some (some (.ref f_Maybe_text)))
    (l_Maybe_text : K.lookup f_Maybe_text = some ⟨oc_Maybe_text, od_Maybe_text, .func (PySem.W.fnOf "text" "Maybe.text" (defArgs s_Maybe_text) (defBody s_Maybe_text) (defScope s_Maybe_text) .none kV_Maybe_text dc_Maybe_text pm_Maybe_text an_Maybe_text cd_Maybe_text ct_Maybe_text), sl_Maybe_text⟩)
    (c_Maybe_text : PySem.W.codeIn K cd_Maybe_text "Maybe.text" = true)
    (k_Maybe_text : PySem.W.keepIn K (.ref f_Maybe_text) = true)
    (if_Maybe_text : PySem.W.isFn K (.ref f_Maybe_text) = true)
    (a_Again_text : PySem.W.findIn K (.ref x_Again) "text" = some (some (.ref f_Again_text)))
    (l_Again_text : K.lookup f_Again_text = some ⟨oc_Again_text, od_Again_text, .func (PySem.W.fnOf "text" "Again.text" (defArgs s_Again_text) (defBody s_Again_text) (defScope s_Again_text) .none kV_Again_text dc_Again_text pm_Again_text an_Again_text cd_Again_text ct_Again_text), sl_Again_text⟩)
    (c_Again_text : PySem.W.codeIn K cd_Again_text "Again.text" = true)
    (k_Again_text : PySem.W.keepIn K (.ref f_Again_text) = true)
    (if_Again_text : PySem.W.isFn K (.ref f_Again_text) = true)
    (a__law_cell : PySem.W.nsIn K mainGlobals "_law_cell" = some (some (.ref f__law_cell)))
    (l__law_cell : K.lookup f__law_cell = some ⟨oc__law_cell, od__law_cell, .func (PySem.W.fnOf "_law_cell" "_law_cell" (defArgs s__law_cell) (defBody s__law_cell) (defScope s__law_cell) .none kV__law_cell dc__law_cell pm__law_cell an__law_cell cd__law_cell ct__law_cell), sl__law_cell⟩)
    (c__law_cell : PySem.W.codeIn K cd__law_cell "_law_cell" = true)
    (k__law_cell : PySem.W.keepIn K (.ref f__law_cell) = true)
    (a__law_signs : PySem.W.nsIn K mainGlobals "_law_signs" = some (some (.ref f__law_signs)))
    (l__law_signs : K.lookup f__law_signs = some ⟨oc__law_signs, od__law_signs, .func (PySem.W.fnOf "_law_signs" "_law_signs" (defArgs s__law_signs) (defBody s__law_signs) (defScope s__law_signs) .none kV__law_signs dc__law_signs pm__law_signs an__law_signs cd__law_signs ct__law_signs), sl__law_signs⟩)
    (c__law_signs : PySem.W.codeIn K cd__law_signs "_law_signs" = true)
    (k__law_signs : PySem.W.keepIn K (.ref f__law_signs) = true)
    (a__law_fixed_by : PySem.W.nsIn K mainGlobals "_law_fixed_by" = some (some (.ref f__law_fixed_by)))
    (l__law_fixed_by : K.lookup f__law_fixed_by = some ⟨oc__law_fixed_by, od__law_fixed_by, .func (PySem.W.fnOf "_law_fixed_by" "_law_fixed_by" (defArgs s__law_fixed_by) (defBody s__law_fixed_by) (defScope s__law_fixed_by) .none kV__law_fixed_by dc__law_fixed_by pm__law_fixed_by an__law_fixed_by cd__law_fixed_by ct__law_fixed_by), sl__law_fixed_by⟩)
    (c__law_fixed_by : PySem.W.codeIn K cd__law_fixed_by "_law_fixed_by" = true)
    (k__law_fixed_by : PySem.W.keepIn K (.ref f__law_fixed_by) = true)
    (z_range : PySem.W.nsIn K mainGlobals "range" = some none)
    (a__law_part_by : PySem.W.nsIn K mainGlobals "_law_part_by" = some (some (.ref f__law_part_by)))
    (l__law_part_by : K.lookup f__law_part_by = some ⟨oc__law_part_by, od__law_part_by, .func (PySem.W.fnOf "_law_part_by" "_law_part_by" (defArgs s__law_part_by) (defBody s__law_part_by) (defScope s__law_part_by) .none kV__law_part_by dc__law_part_by pm__law_part_by an__law_part_by cd__law_part_by ct__law_part_by), sl__law_part_by⟩)
    (c__law_part_by : PySem.W.codeIn K cd__law_part_by "_law_part_by" = true)
    (k__law_part_by : PySem.W.keepIn K (.ref f__law_part_by) = true)
    (a__law_plain_item : PySem.W.nsIn K mainGlobals "_law_plain_item" = some (some (.ref f__law_plain_item)))
    (l__law_plain_item : K.lookup f__law_plain_item = some ⟨oc__law_plain_item, od__law_plain_item, .func (PySem.W.fnOf "_law_plain_item" "_law_plain_item" (defArgs s__law_plain_item) (defBody s__law_plain_item) (defScope s__law_plain_item) .none kV__law_plain_item dc__law_plain_item pm__law_plain_item an__law_plain_item cd__law_plain_item ct__law_plain_item), sl__law_plain_item⟩)
    (c__law_plain_item : PySem.W.codeIn K cd__law_plain_item "_law_plain_item" = true)
    (k__law_plain_item : PySem.W.keepIn K (.ref f__law_plain_item) = true)
    (a__law_item_by : PySem.W.nsIn K mainGlobals "_law_item_by" = some (some (.ref f__law_item_by)))
    (l__law_item_by : K.lookup f__law_item_by = some ⟨oc__law_item_by, od__law_item_by, .func (PySem.W.fnOf "_law_item_by" "_law_item_by" (defArgs s__law_item_by) (defBody s__law_item_by) (defScope s__law_item_by) .none kV__law_item_by dc__law_item_by pm__law_item_by an__law_item_by cd__law_item_by ct__law_item_by), sl__law_item_by⟩)
    (c__law_item_by : PySem.W.codeIn K cd__law_item_by "_law_item_by" = true)
    (k__law_item_by : PySem.W.keepIn K (.ref f__law_item_by) = true)
    (a__law_word_text : PySem.W.nsIn K mainGlobals "_law_word_text" = some (some (.ref f__law_word_text)))
    (l__law_word_text : K.lookup f__law_word_text = some ⟨oc__law_word_text, od__law_word_text, .func (PySem.W.fnOf "_law_word_text" "_law_word_text" (defArgs s__law_word_text) (defBody s__law_word_text) (defScope s__law_word_text) .none kV__law_word_text dc__law_word_text pm__law_word_text an__law_word_text cd__law_word_text ct__law_word_text), sl__law_word_text⟩)
    (c__law_word_text : PySem.W.codeIn K cd__law_word_text "_law_word_text" = true)
    (k__law_word_text : PySem.W.keepIn K (.ref f__law_word_text) = true)
    (a__law_made_item : PySem.W.nsIn K mainGlobals "_law_made_item" = some (some (.ref f__law_made_item)))
    (l__law_made_item : K.lookup f__law_made_item = some ⟨oc__law_made_item, od__law_made_item, .func (PySem.W.fnOf "_law_made_item" "_law_made_item" (defArgs s__law_made_item) (defBody s__law_made_item) (defScope s__law_made_item) .none kV__law_made_item dc__law_made_item pm__law_made_item an__law_made_item cd__law_made_item ct__law_made_item), sl__law_made_item⟩)
    (c__law_made_item : PySem.W.codeIn K cd__law_made_item "_law_made_item" = true)
    (k__law_made_item : PySem.W.keepIn K (.ref f__law_made_item) = true)
    (a__law_item_text : PySem.W.nsIn K mainGlobals "_law_item_text" = some (some (.ref f__law_item_text)))
    (l__law_item_text : K.lookup f__law_item_text = some ⟨oc__law_item_text, od__law_item_text, .func (PySem.W.fnOf "_law_item_text" "_law_item_text" (defArgs s__law_item_text) (defBody s__law_item_text) (defScope s__law_item_text) .none kV__law_item_text dc__law_item_text pm__law_item_text an__law_item_text cd__law_item_text ct__law_item_text), sl__law_item_text⟩)
    (c__law_item_text : PySem.W.codeIn K cd__law_item_text "_law_item_text" = true)
    (k__law_item_text : PySem.W.keepIn K (.ref f__law_item_text) = true)
    (z_int : PySem.W.nsIn K mainGlobals "int" = some none)
    (pg_Item : PySem.W.plainGet K x_Item Str.empty = true)
    (hd_Item : PySem.W.hasDictIn K x_Item = true)
    (po_Item : PySem.W.plainOver K x_Item = true)
    (sa_Item : PySem.W.findIn K (.ref x_Item) "__setattr__" = some (some (.builtin "object.__setattr__")))
    (cc_Item : PySem.W.findIn K (.ref x_Item) "__class__" = some (some (.builtin "object.__class__")))
    (mo_Item : PySem.W.mroIn K x_Item (.type "object") = some true)
    (kp_Item : PySem.W.keepIn K (.ref x_Item) = true)
    (a_Item_inner : PySem.W.findIn K (.ref x_Item) "inner" = some (some (.ref f_Item_inner)))
    (l_Item_inner : K.lookup f_Item_inner = some ⟨oc_Item_inner, od_Item_inner, .func (PySem.W.fnOf "inner" "Item.inner" (defArgs s_Item_inner) (defBody s_Item_inner) (defScope s_Item_inner) .none kV_Item_inner dc_Item_inner pm_Item_inner an_Item_inner cd_Item_inner ct_Item_inner), sl_Item_inner⟩)
    (c_Item_inner : PySem.W.codeIn K cd_Item_inner "Item.inner" = true)
    (k_Item_inner : PySem.W.keepIn K (.ref f_Item_inner) = true)
    (if_Item_inner : PySem.W.isFn K (.ref f_Item_inner) = true)
    (a_Part_inner : PySem.W.findIn K (.ref x_Part) "inner" = some (some (.ref f_Item_inner)))
    (a_Word_inner : PySem.W.findIn K (.ref x_Word) "inner" = some (some (.ref f_Item_inner)))
    (a_Maybe_inner : PySem.W.findIn K (.ref x_Maybe) "inner" = some (some (.ref f_Maybe_inner)))
    (l_Maybe_inner : K.lookup f_Maybe_inner = some ⟨oc_Maybe_inner, od_Maybe_inner, .func (PySem.W.fnOf "inner" "Maybe.inner" (defArgs s_Maybe_inner) (defBody s_Maybe_inner) (defScope s_Maybe_inner) .none kV_Maybe_inner dc_Maybe_inner pm_Maybe_inner an_Maybe_inner cd_Maybe_inner ct_Maybe_inner), sl_Maybe_inner⟩)
    (c_Maybe_inner : PySem.W.codeIn K cd_Maybe_inner "Maybe.inner" = true)
    (k_Maybe_inner : PySem.W.keepIn K (.ref f_Maybe_inner) = true)
    (if_Maybe_inner : PySem.W.isFn K (.ref f_Maybe_inner) = true)
    (a_Again_inner : PySem.W.findIn K (.ref x_Again) "inner" = some (some (.ref f_Again_inner)))
    (l_Again_inner : K.lookup f_Again_inner = some ⟨oc_Again_inner, od_Again_inner, .func (PySem.W.fnOf "inner" "Again.inner" (defArgs s_Again_inner) (defBody s_Again_inner) (defScope s_Again_inner) .none kV_Again_inner dc_Again_inner pm_Again_inner an_Again_inner cd_Again_inner ct_Again_inner), sl_Again_inner⟩)
    (c_Again_inner : PySem.W.codeIn K cd_Again_inner "Again.inner" = true)
    (k_Again_inner : PySem.W.keepIn K (.ref f_Again_inner) = true)
    (if_Again_inner : PySem.W.isFn K (.ref f_Again_inner) = true)
    (a_Item_size : PySem.W.findIn K (.ref x_Item) "size" = some (some (.ref f_Item_size)))
    (l_Item_size : K.lookup f_Item_size = some ⟨oc_Item_size, od_Item_size, .func (PySem.W.fnOf "size" "Item.size" (defArgs s_Item_size) (defBody s_Item_size) (defScope s_Item_size) .none kV_Item_size dc_Item_size pm_Item_size an_Item_size cd_Item_size ct_Item_size), sl_Item_size⟩)
    (c_Item_size : PySem.W.codeIn K cd_Item_size "Item.size" = true)
    (k_Item_size : PySem.W.keepIn K (.ref f_Item_size) = true)
    (if_Item_size : PySem.W.isFn K (.ref f_Item_size) = true)
    (a_Part_size : PySem.W.findIn K (.ref x_Part) "size" = some (some (.ref f_Item_size)))
    (a_Word_size : PySem.W.findIn K (.ref x_Word) "size" = some (some (.ref f_Item_size)))
    (a_Maybe_size : PySem.W.findIn K (.ref x_Maybe) "size" = some (some (.ref f_Item_size)))
    (a_Again_size : PySem.W.findIn K (.ref x_Again) "size" = some (some (.ref f_Item_size)))
    (a_need : PySem.W.nsIn K mainGlobals "need" = some (some (.ref f_need)))
    (l_need : K.lookup f_need = some ⟨oc_need, od_need, .func (PySem.W.fnOf "need" "need" (defArgs s_need) (defBody s_need) (defScope s_need) .none kV_need dc_need pm_need an_need cd_need ct_need), sl_need⟩)
    (c_need : PySem.W.codeIn K cd_need "need" = true)
    (k_need : PySem.W.keepIn K (.ref f_need) = true)
    (a_need_level : PySem.W.nsIn K mainGlobals "need_level" = some (some (.ref f_need_level)))
    (l_need_level : K.lookup f_need_level = some ⟨oc_need_level, od_need_level, .func (PySem.W.fnOf "need_level" "need_level" (defArgs s_need_level) (defBody s_need_level) (defScope s_need_level) .none kV_need_level dc_need_level pm_need_level an_need_level cd_need_level ct_need_level), sl_need_level⟩)
    (c_need_level : PySem.W.codeIn K cd_need_level "need_level" = true)
    (k_need_level : PySem.W.keepIn K (.ref f_need_level) = true)
    (n_WAYS : PySem.W.nsIn K mainGlobals "WAYS" = some (some (.ref ga_WAYS)))
    (o_WAYS : K.lookup ga_WAYS = some ⟨.type "tuple", go_WAYS, .seq #[(.str (Str.ofString "left") tk17), (.str (Str.ofString "right") tk18), (.str (Str.ofString "alone") tk19), (.str (Str.ofString "ahead") tk20), (.str (Str.ofString "behind") tk21)] gn_WAYS, gs_WAYS⟩)
    (n_MOST_WORDS : PySem.W.nsIn K mainGlobals "MOST_WORDS" = some (some (.int 4 tk22)))
    (a_place_of : PySem.W.nsIn K mainGlobals "place_of" = some (some (.ref f_place_of)))
    (l_place_of : K.lookup f_place_of = some ⟨oc_place_of, od_place_of, .func (PySem.W.fnOf "place_of" "place_of" (defArgs s_place_of) (defBody s_place_of) (defScope s_place_of) .none kV_place_of dc_place_of pm_place_of an_place_of cd_place_of ct_place_of), sl_place_of⟩)
    (c_place_of : PySem.W.codeIn K cd_place_of "place_of" = true)
    (k_place_of : PySem.W.keepIn K (.ref f_place_of) = true)
    (n_BETWEEN : PySem.W.nsIn K mainGlobals "BETWEEN" = some (some (.ref ga_BETWEEN)))
    (o_BETWEEN : K.lookup ga_BETWEEN = some ⟨.type "tuple", go_BETWEEN, .seq #[(.str (Str.ofString "left") tk23), (.str (Str.ofString "right") tk24), (.str (Str.ofString "alone") tk25)] gn_BETWEEN, gs_BETWEEN⟩)
    (a_Choice___init__ : PySem.W.findIn K (.ref x_Choice) "__init__" = some (some (.ref f_Choice___init__)))
    (l_Choice___init__ : K.lookup f_Choice___init__ = some ⟨oc_Choice___init__, od_Choice___init__, .func (PySem.W.fnOf "__init__" "Choice.__init__" (defArgs s_Choice___init__) (defBody s_Choice___init__) (defScope s_Choice___init__) .none kV_Choice___init__ dc_Choice___init__ pm_Choice___init__ an_Choice___init__ cd_Choice___init__ ct_Choice___init__), sl_Choice___init__⟩)
    (c_Choice___init__ : PySem.W.codeIn K cd_Choice___init__ "Choice.__init__" = true)
    (k_Choice___init__ : PySem.W.keepIn K (.ref f_Choice___init__) = true)
    (if_Choice___init__ : PySem.W.isFn K (.ref f_Choice___init__) = true)
    (mk_Choice : PySem.W.makesIn K x_Choice = true)
    (n_MOST_ITEMS : PySem.W.nsIn K mainGlobals "MOST_ITEMS" = some (some (.int 8 tk26)))
    (z_sum : PySem.W.nsIn K mainGlobals "sum" = some none)
    (a_Joins___init__ : PySem.W.findIn K (.ref x_Joins) "__init__" = some (some (.ref f_Joins___init__)))
    (l_Joins___init__ : K.lookup f_Joins___init__ = some ⟨oc_Joins___init__, od_Joins___init__, .func (PySem.W.fnOf "__init__" "Joins.__init__" (defArgs s_Joins___init__) (defBody s_Joins___init__) (defScope s_Joins___init__) .none kV_Joins___init__ dc_Joins___init__ pm_Joins___init__ an_Joins___init__ cd_Joins___init__ ct_Joins___init__), sl_Joins___init__⟩)
    (c_Joins___init__ : PySem.W.codeIn K cd_Joins___init__ "Joins.__init__" = true)
    (k_Joins___init__ : PySem.W.keepIn K (.ref f_Joins___init__) = true)
    (if_Joins___init__ : PySem.W.isFn K (.ref f_Joins___init__) = true)
    (mk_Joins : PySem.W.makesIn K x_Joins = true)
    (n_MOST_LEVELS : PySem.W.nsIn K mainGlobals "MOST_LEVELS" = some (some (.int 5 tk27)))
    (a_Grammar___init__ : PySem.W.findIn K (.ref x_Grammar) "__init__" = some (some (.ref f_Grammar___init__)))
    (l_Grammar___init__ : K.lookup f_Grammar___init__ = some ⟨oc_Grammar___init__, od_Grammar___init__, .func (PySem.W.fnOf "__init__" "Grammar.__init__" (defArgs s_Grammar___init__) (defBody s_Grammar___init__) (defScope s_Grammar___init__) .none kV_Grammar___init__ dc_Grammar___init__ pm_Grammar___init__ an_Grammar___init__ cd_Grammar___init__ ct_Grammar___init__), sl_Grammar___init__⟩)
    (c_Grammar___init__ : PySem.W.codeIn K cd_Grammar___init__ "Grammar.__init__" = true)
    (k_Grammar___init__ : PySem.W.keepIn K (.ref f_Grammar___init__) = true)
    (if_Grammar___init__ : PySem.W.isFn K (.ref f_Grammar___init__) = true)
    (mk_Grammar : PySem.W.makesIn K x_Grammar = true)
    (n_MOST_CHOICES : PySem.W.nsIn K mainGlobals "MOST_CHOICES" = some (some (.int 24 tk28)))
    (n_MOST_JOINS : PySem.W.nsIn K mainGlobals "MOST_JOINS" = some (some (.int 3 tk29)))
    (z_set : PySem.W.nsIn K mainGlobals "set" = some none)
    (a_choice_text : PySem.W.nsIn K mainGlobals "choice_text" = some (some (.ref f_choice_text)))
    (l_choice_text : K.lookup f_choice_text = some ⟨oc_choice_text, od_choice_text, .func (PySem.W.fnOf "choice_text" "choice_text" (defArgs s_choice_text) (defBody s_choice_text) (defScope s_choice_text) .none kV_choice_text dc_choice_text pm_choice_text an_choice_text cd_choice_text ct_choice_text), sl_choice_text⟩)
    (c_choice_text : PySem.W.codeIn K cd_choice_text "choice_text" = true)
    (k_choice_text : PySem.W.keepIn K (.ref f_choice_text) = true)
    (a_joins_text : PySem.W.nsIn K mainGlobals "joins_text" = some (some (.ref f_joins_text)))
    (l_joins_text : K.lookup f_joins_text = some ⟨oc_joins_text, od_joins_text, .func (PySem.W.fnOf "joins_text" "joins_text" (defArgs s_joins_text) (defBody s_joins_text) (defScope s_joins_text) .none kV_joins_text dc_joins_text pm_joins_text an_joins_text cd_joins_text ct_joins_text), sl_joins_text⟩)
    (c_joins_text : PySem.W.codeIn K cd_joins_text "joins_text" = true)
    (k_joins_text : PySem.W.keepIn K (.ref f_joins_text) = true)
    (a_written : PySem.W.nsIn K mainGlobals "written" = some (some (.ref f_written)))
    (l_written : K.lookup f_written = some ⟨oc_written, od_written, .func (PySem.W.fnOf "written" "written" (defArgs s_written) (defBody s_written) (defScope s_written) .none kV_written dc_written pm_written an_written cd_written ct_written), sl_written⟩)
    (c_written : PySem.W.codeIn K cd_written "written" = true)
    (k_written : PySem.W.keepIn K (.ref f_written) = true)
    (a__law_label_by : PySem.W.nsIn K mainGlobals "_law_label_by" = some (some (.ref f__law_label_by)))
    (l__law_label_by : K.lookup f__law_label_by = some ⟨oc__law_label_by, od__law_label_by, .func (PySem.W.fnOf "_law_label_by" "_law_label_by" (defArgs s__law_label_by) (defBody s__law_label_by) (defScope s__law_label_by) .none kV__law_label_by dc__law_label_by pm__law_label_by an__law_label_by cd__law_label_by ct__law_label_by), sl__law_label_by⟩)
    (c__law_label_by : PySem.W.codeIn K cd__law_label_by "_law_label_by" = true)
    (k__law_label_by : PySem.W.keepIn K (.ref f__law_label_by) = true)
    (a__law_joins_by : PySem.W.nsIn K mainGlobals "_law_joins_by" = some (some (.ref f__law_joins_by)))
    (l__law_joins_by : K.lookup f__law_joins_by = some ⟨oc__law_joins_by, od__law_joins_by, .func (PySem.W.fnOf "_law_joins_by" "_law_joins_by" (defArgs s__law_joins_by) (defBody s__law_joins_by) (defScope s__law_joins_by) .none kV__law_joins_by dc__law_joins_by pm__law_joins_by an__law_joins_by cd__law_joins_by ct__law_joins_by), sl__law_joins_by⟩)
    (c__law_joins_by : PySem.W.codeIn K cd__law_joins_by "_law_joins_by" = true)
    (k__law_joins_by : PySem.W.keepIn K (.ref f__law_joins_by) = true)
    (a__law_size : PySem.W.nsIn K mainGlobals "_law_size" = some (some (.ref f__law_size)))
    (l__law_size : K.lookup f__law_size = some ⟨oc__law_size, od__law_size, .func (PySem.W.fnOf "_law_size" "_law_size" (defArgs s__law_size) (defBody s__law_size) (defScope s__law_size) .none kV__law_size dc__law_size pm__law_size an__law_size cd__law_size ct__law_size), sl__law_size⟩)
    (c__law_size : PySem.W.codeIn K cd__law_size "_law_size" = true)
    (k__law_size : PySem.W.keepIn K (.ref f__law_size) = true)
    (a__law_grammar_by : PySem.W.nsIn K mainGlobals "_law_grammar_by" = some (some (.ref f__law_grammar_by)))
    (l__law_grammar_by : K.lookup f__law_grammar_by = some ⟨oc__law_grammar_by, od__law_grammar_by, .func (PySem.W.fnOf "_law_grammar_by" "_law_grammar_by" (defArgs s__law_grammar_by) (defBody s__law_grammar_by) (defScope s__law_grammar_by) .none kV__law_grammar_by dc__law_grammar_by pm__law_grammar_by an__law_grammar_by cd__law_grammar_by ct__law_grammar_by), sl__law_grammar_by⟩)
    (c__law_grammar_by : PySem.W.codeIn K cd__law_grammar_by "_law_grammar_by" = true)
    (k__law_grammar_by : PySem.W.keepIn K (.ref f__law_grammar_by) = true)
    (a__law_made : PySem.W.nsIn K mainGlobals "_law_made" = some (some (.ref f__law_made)))
    (l__law_made : K.lookup f__law_made = some ⟨oc__law_made, od__law_made, .func (PySem.W.fnOf "_law_made" "_law_made" (defArgs s__law_made) (defBody s__law_made) (defScope s__law_made) .none kV__law_made dc__law_made pm__law_made an__law_made cd__law_made ct__law_made), sl__law_made⟩)
    (c__law_made : PySem.W.codeIn K cd__law_made "_law_made" = true)
    (k__law_made : PySem.W.keepIn K (.ref f__law_made) = true)
    (z_list : PySem.W.nsIn K mainGlobals "list" = some none)
    (a__law_told : PySem.W.nsIn K mainGlobals "_law_told" = some (some (.ref f__law_told)))
    (l__law_told : K.lookup f__law_told = some ⟨oc__law_told, od__law_told, .func (PySem.W.fnOf "_law_told" "_law_told" (defArgs s__law_told) (defBody s__law_told) (defScope s__law_told) .none kV__law_told dc__law_told pm__law_told an__law_told cd__law_told ct__law_told), sl__law_told⟩)
    (c__law_told : PySem.W.codeIn K cd__law_told "_law_told" = true)
    (k__law_told : PySem.W.keepIn K (.ref f__law_told) = true)
    (a__law_rows : PySem.W.nsIn K mainGlobals "_law_rows" = some (some (.ref f__law_rows)))
    (l__law_rows : K.lookup f__law_rows = some ⟨oc__law_rows, od__law_rows, .func (PySem.W.fnOf "_law_rows" "_law_rows" (defArgs s__law_rows) (defBody s__law_rows) (defScope s__law_rows) .none kV__law_rows dc__law_rows pm__law_rows an__law_rows cd__law_rows ct__law_rows), sl__law_rows⟩)
    (c__law_rows : PySem.W.codeIn K cd__law_rows "_law_rows" = true)
    (k__law_rows : PySem.W.keepIn K (.ref f__law_rows) = true)
    (a_law : PySem.W.nsIn K mainGlobals "law" = some (some (.ref f_law)))
    (l_law : K.lookup f_law = some ⟨oc_law, od_law, .func (PySem.W.fnOf "law" "law" (defArgs s_law) (defBody s_law) (defScope s_law) .none kV_law dc_law pm_law an_law cd_law ct_law), sl_law⟩)
    (c_law : PySem.W.codeIn K cd_law "law" = true)
    (k_law : PySem.W.keepIn K (.ref f_law) = true)
    (z_max : PySem.W.nsIn K mainGlobals "max" = some none)
    (z_min : PySem.W.nsIn K mainGlobals "min" = some none) :
    ∃ fd : FuncData, (∀ (s : Shared) (v : Value), BindsTo s fd ⟨[v], []⟩ [("_law_script", v)]) ∧ ∀ base : Heap, K.In base → base.Ns mainGlobals mg → FnOk l.prog w K mg base CX0 9 fa fd ["_law_script"] (spLaw K) := by
  have e := hfa.symm.trans (PySem.W.mg_of X G a_law)
  cases e
  have rv_LETTERS : RelV (V.str (Str.ofString "abcdefghijklmnopqrstuvwxyz")) (.str (Str.ofString "abcdefghijklmnopqrstuvwxyz") tk1) := ⟨_, rfl⟩
  have hd_LETTERS : ∀ G, DR K G (V.str (Str.ofString "abcdefghijklmnopqrstuvwxyz")) (.txt letters) := fun G => .ofStr _
  have rv_MOST_LETTERS_words : RelV (V.int 8) (.int 8 tk2) := ⟨_, rfl⟩
  have hd_MOST_LETTERS_words : ∀ G, DR K G (V.int 8) (.int 8) := fun G => .int _
  have rv_SIGNS : RelV (V.str (Str.ofString "!#$&()*+,-./:;<=>?@\x5b]^{|}~")) (.str (Str.ofString "!#$&()*+,-./:;<=>?@\x5b]^{|}~") tk3) := ⟨_, rfl⟩
  have hd_SIGNS : ∀ G, DR K G (V.str (Str.ofString "!#$&()*+,-./:;<=>?@\x5b]^{|}~")) (.txt signs) := fun G => .ofStr _
  have rv_MOST_SIGNS : RelV (V.int 3) (.int 3 tk4) := ⟨_, rfl⟩
  have hd_MOST_SIGNS : ∀ G, DR K G (V.int 3) (.int 3) := fun G => .int _
  have rv_OPEN : RelV (V.ref ga_OPEN) (.ref ga_OPEN) := rfl
  have hd_OPEN : ∀ G, DR K G (V.ref ga_OPEN) (.tup (open3.map .txt)) := fun G => .tup (xs := [(V.str (Str.ofString "NAME")), (V.str (Str.ofString "NUMBER")), (V.str (Str.ofString "QUOTE"))]) (.inr ⟨_, _, _, o_OPEN, rfl, rfl, (by show 3 ≤ sizeLine; decide), (.cons ⟨_, rfl⟩ (.cons ⟨_, rfl⟩ (.cons ⟨_, rfl⟩ .nil)))⟩) (.cons (.ofStr _) (.cons (.ofStr _) (.cons (.ofStr _) .nil)))
  have rv_MOST_LETTERS_items : RelV (V.int 8) (.int 8 tk8) := ⟨_, rfl⟩
  have hd_MOST_LETTERS_items : ∀ G, DR K G (V.int 8) (.int 8) := fun G => .int _
  have rv_KEPT : RelV (V.ref ga_KEPT) (.ref ga_KEPT) := rfl
  have hd_KEPT : ∀ G, DR K G (V.ref ga_KEPT) (.tup (kept.map .txt)) := fun G => .tup (xs := [(V.str (Str.ofString "start")), (V.str (Str.ofString "joins")), (V.str (Str.ofString "in")), (V.str (Str.ofString "left")), (V.str (Str.ofString "right")), (V.str (Str.ofString "alone")), (V.str (Str.ofString "ahead")), (V.str (Str.ofString "behind"))]) (.inr ⟨_, _, _, o_KEPT, rfl, rfl, (by show 8 ≤ sizeLine; decide), (.cons ⟨_, rfl⟩ (.cons ⟨_, rfl⟩ (.cons ⟨_, rfl⟩ (.cons ⟨_, rfl⟩ (.cons ⟨_, rfl⟩ (.cons ⟨_, rfl⟩ (.cons ⟨_, rfl⟩ (.cons ⟨_, rfl⟩ .nil))))))))⟩) (.cons (.ofStr _) (.cons (.ofStr _) (.cons (.ofStr _) (.cons (.ofStr _) (.cons (.ofStr _) (.cons (.ofStr _) (.cons (.ofStr _) (.cons (.ofStr _) .nil))))))))
  have rv_WAYS : RelV (V.ref ga_WAYS) (.ref ga_WAYS) := rfl
  have hd_WAYS : ∀ G, DR K G (V.ref ga_WAYS) (.tup (ways5.map .txt)) := fun G => .tup (xs := [(V.str (Str.ofString "left")), (V.str (Str.ofString "right")), (V.str (Str.ofString "alone")), (V.str (Str.ofString "ahead")), (V.str (Str.ofString "behind"))]) (.inr ⟨_, _, _, o_WAYS, rfl, rfl, (by show 5 ≤ sizeLine; decide), (.cons ⟨_, rfl⟩ (.cons ⟨_, rfl⟩ (.cons ⟨_, rfl⟩ (.cons ⟨_, rfl⟩ (.cons ⟨_, rfl⟩ .nil)))))⟩) (.cons (.ofStr _) (.cons (.ofStr _) (.cons (.ofStr _) (.cons (.ofStr _) (.cons (.ofStr _) .nil)))))
  have rv_MOST_WORDS : RelV (V.int 4) (.int 4 tk22) := ⟨_, rfl⟩
  have hd_MOST_WORDS : ∀ G, DR K G (V.int 4) (.int 4) := fun G => .int _
  have rv_BETWEEN : RelV (V.ref ga_BETWEEN) (.ref ga_BETWEEN) := rfl
  have hd_BETWEEN : ∀ G, DR K G (V.ref ga_BETWEEN) (.tup (betw3.map .txt)) := fun G => .tup (xs := [(V.str (Str.ofString "left")), (V.str (Str.ofString "right")), (V.str (Str.ofString "alone"))]) (.inr ⟨_, _, _, o_BETWEEN, rfl, rfl, (by show 3 ≤ sizeLine; decide), (.cons ⟨_, rfl⟩ (.cons ⟨_, rfl⟩ (.cons ⟨_, rfl⟩ .nil)))⟩) (.cons (.ofStr _) (.cons (.ofStr _) (.cons (.ofStr _) .nil)))
  have rv_MOST_ITEMS : RelV (V.int 8) (.int 8 tk26) := ⟨_, rfl⟩
  have hd_MOST_ITEMS : ∀ G, DR K G (V.int 8) (.int 8) := fun G => .int _
  have rv_MOST_LEVELS : RelV (V.int 5) (.int 5 tk27) := ⟨_, rfl⟩
  have hd_MOST_LEVELS : ∀ G, DR K G (V.int 5) (.int 5) := fun G => .int _
  have rv_MOST_CHOICES : RelV (V.int 24) (.int 24 tk28) := ⟨_, rfl⟩
  have hd_MOST_CHOICES : ∀ G, DR K G (V.int 24) (.int 24) := fun G => .int _
  have rv_MOST_JOINS : RelV (V.int 3) (.int 3 tk29) := ⟨_, rfl⟩
  have hd_MOST_JOINS : ∀ G, DR K G (V.int 3) (.int 3) := fun G => .int _
  have cl_Part : Cls K x_Part := ⟨pg_Part, hd_Part, po_Part, sa_Part⟩
  have ins_Part : InsC K x_Part := ⟨cl_Part, cc_Part, cn, ct, mo_Part⟩
  have cl_Word : Cls K x_Word := ⟨pg_Word, hd_Word, po_Word, sa_Word⟩
  have ins_Word : InsC K x_Word := ⟨cl_Word, cc_Word, cn, ct, mo_Word⟩
  have cl_Maybe : Cls K x_Maybe := ⟨pg_Maybe, hd_Maybe, po_Maybe, sa_Maybe⟩
  have ins_Maybe : InsC K x_Maybe := ⟨cl_Maybe, cc_Maybe, cn, ct, mo_Maybe⟩
  have cl_Again : Cls K x_Again := ⟨pg_Again, hd_Again, po_Again, sa_Again⟩
  have ins_Again : InsC K x_Again := ⟨cl_Again, cc_Again, cn, ct, mo_Again⟩
  have cl_Choice : Cls K x_Choice := ⟨pg_Choice, hd_Choice, po_Choice, sa_Choice⟩
  have ins_Choice : InsC K x_Choice := ⟨cl_Choice, cc_Choice, cn, ct, mo_Choice⟩
  have cl_Joins : Cls K x_Joins := ⟨pg_Joins, hd_Joins, po_Joins, sa_Joins⟩
  have ins_Joins : InsC K x_Joins := ⟨cl_Joins, cc_Joins, cn, ct, mo_Joins⟩
  have cl_Grammar : Cls K x_Grammar := ⟨pg_Grammar, hd_Grammar, po_Grammar, sa_Grammar⟩
  have ins_Grammar : InsC K x_Grammar := ⟨cl_Grammar, cc_Grammar, cn, ct, mo_Grammar⟩
  have x0_NoGrammar : X0 K mg "NoGrammar" x_NoGrammar := ⟨xq_NoGrammar, PySem.W.mg_of X G n_NoGrammar, kp_NoGrammar, sb_NoGrammar, ty_NoGrammar⟩
  have kc : Kc K (Cs.mk x_Part x_Word x_Maybe x_Again) := ⟨ins_Part, ins_Word, ins_Maybe, ins_Again, nf_Part_name, nf_Word_kind, nf_Maybe_things, nf_Again_things, nf_Again_between, ki_Part_Part, ki_Part_Word, ki_Part_Maybe, ki_Part_Again, ki_Word_Part, ki_Word_Word, ki_Word_Maybe, ki_Word_Again, ki_Maybe_Part, ki_Maybe_Word, ki_Maybe_Maybe, ki_Maybe_Again, ki_Again_Part, ki_Again_Word, ki_Again_Maybe, ki_Again_Again⟩
  have ki : Ki K (Cs.mk x_Part x_Word x_Maybe x_Again) x_Item := ⟨ki_Part_Item, ki_Word_Item, ki_Maybe_Item, ki_Again_Item⟩
  have kg : Kg K (Cg.mk x_Choice x_Joins x_Grammar) := ⟨ins_Choice, ins_Joins, ins_Grammar, nf_Choice_part, nf_Choice_label, nf_Choice_things, nf_Joins_part, nf_Joins_of, nf_Joins_brackets, nf_Joins_levels, nf_Grammar_start, nf_Grammar_choices, nf_Grammar_joins⟩
  have cl_Item : Cls K x_Item := ⟨pg_Item, hd_Item, po_Item, sa_Item⟩
  have ins_Item : InsC K x_Item := ⟨cl_Item, cc_Item, cn, ct, mo_Item⟩
  have F_is_of := fun_mk (st := s_is_of) l_is_of c_is_of k_is_of
  have b_is_of := F_is_of.binds (ps := ["text", "signs", "most"]) fun _ _ _ _ _ _ us hl => match us, hl with | [_, _, _], _ => rfl
  have F_is_fixed := fun_mk (st := s_is_fixed) l_is_fixed c_is_fixed k_is_fixed
  have b_is_fixed := F_is_fixed.binds (ps := ["thing"]) fun _ _ _ _ _ _ us hl => match us, hl with | [_], _ => rfl
  have F_is_kind := fun_mk (st := s_is_kind) l_is_kind c_is_kind k_is_kind
  have b_is_kind := F_is_kind.binds (ps := ["thing"]) fun _ _ _ _ _ _ us hl => match us, hl with | [_], _ => rfl
  have F_fixed_of := fun_mk (st := s_fixed_of) l_fixed_of c_fixed_of k_fixed_of
  have b_fixed_of := F_fixed_of.binds (ps := ["kind"]) fun _ _ _ _ _ _ us hl => match us, hl with | [_], _ => rfl
  have F_is_name := fun_mk (st := s_is_name) l_is_name c_is_name k_is_name
  have b_is_name := F_is_name.binds (ps := ["text"]) fun _ _ _ _ _ _ us hl => match us, hl with | [_], _ => rfl
  have F_need_name := fun_mk (st := s_need_name) l_need_name c_need_name k_need_name
  have b_need_name := F_need_name.binds (ps := ["text"]) fun _ _ _ _ _ _ us hl => match us, hl with | [_], _ => rfl
  have F_quoted := fun_mk (st := s_quoted) l_quoted c_quoted k_quoted
  have b_quoted := F_quoted.binds (ps := ["word"]) fun _ _ _ _ _ _ us hl => match us, hl with | [_], _ => rfl
  have F_Part___init__ := fun_mk (st := s_Part___init__) l_Part___init__ c_Part___init__ k_Part___init__
  have b_Part___init__ := F_Part___init__.binds (ps := ["self", "name"]) fun _ _ _ _ _ _ us hl => match us, hl with | [_, _], _ => rfl
  have F_Word___init__ := fun_mk (st := s_Word___init__) l_Word___init__ c_Word___init__ k_Word___init__
  have b_Word___init__ := F_Word___init__.binds (ps := ["self", "kind"]) fun _ _ _ _ _ _ us hl => match us, hl with | [_, _], _ => rfl
  have F_need_inner := fun_mk (st := s_need_inner) l_need_inner c_need_inner k_need_inner
  have b_need_inner := F_need_inner.binds (ps := ["items"]) fun _ _ _ _ _ _ us hl => match us, hl with | [_], _ => rfl
  have F_Maybe___init__ := fun_mk (st := s_Maybe___init__) l_Maybe___init__ c_Maybe___init__ k_Maybe___init__
  have b_Maybe___init__ := F_Maybe___init__.binds (ps := ["self", "things"]) fun _ _ _ _ _ _ us hl => match us, hl with | [_, _], _ => rfl
  have F_Again___init__ : FunD K "__init__" "Again.__init__" (defArgs s_Again___init__) (defBody s_Again___init__) (defScope s_Again___init__) [.non] [] f_Again___init__ _ := ⟨⟨_, _, _, _, _, _, _, _, _, _, rfl, l_Again___init__, c_Again___init__, .inr ⟨by simp, dT_Again___init__, _, [.none], _, rfl, dt_Again___init__, rfl, (.cons rfl .nil)⟩, .inl rfl⟩, k_Again___init__⟩
  have bd0_Again___init__ := F_Again___init__.binds1 (ps := ["self", "things", "between"]) 3 1 (by simp) rfl fun _ _ _ _ _ _ _ us its hu hi => match us, its, hu, hi with | [_, _, _], [_], _, _ => ⟨_, rfl, rfl⟩
  have bd1_Again___init__ := F_Again___init__.binds1 (ps := ["self", "things", "between"]) 2 0 (by simp) rfl fun _ _ _ _ _ _ _ us its hu hi => match us, its, hu, hi with | [_, _], [_], _, _ => ⟨_, rfl, rfl⟩
  have F_Part_told := fun_mk (st := s_Part_told) l_Part_told c_Part_told k_Part_told
  have b_Part_told := F_Part_told.binds (ps := ["self"]) fun _ _ _ _ _ _ us hl => match us, hl with | [_], _ => rfl
  have F_Word_told := fun_mk (st := s_Word_told) l_Word_told c_Word_told k_Word_told
  have b_Word_told := F_Word_told.binds (ps := ["self"]) fun _ _ _ _ _ _ us hl => match us, hl with | [_], _ => rfl
  have F_Part_text := fun_mk (st := s_Part_text) l_Part_text c_Part_text k_Part_text
  have b_Part_text := F_Part_text.binds (ps := ["self"]) fun _ _ _ _ _ _ us hl => match us, hl with | [_], _ => rfl
  have F_Word_text := fun_mk (st := s_Word_text) l_Word_text c_Word_text k_Word_text
  have b_Word_text := F_Word_text.binds (ps := ["self"]) fun _ _ _ _ _ _ us hl => match us, hl with | [_], _ => rfl
  have F_Maybe_told := fun_mk (st := s_Maybe_told) l_Maybe_told c_Maybe_told k_Maybe_told
  have b_Maybe_told := F_Maybe_told.binds (ps := ["self"]) fun _ _ _ _ _ _ us hl => match us, hl with | [_], _ => rfl
  have F_Again_told := fun_mk (st := s_Again_told) l_Again_told c_Again_told k_Again_told
  have b_Again_told := F_Again_told.binds (ps := ["self"]) fun _ _ _ _ _ _ us hl => match us, hl with | [_], _ => rfl
  have F_all_texts := fun_mk (st := s_all_texts) l_all_texts c_all_texts k_all_texts
  have b_all_texts := F_all_texts.binds (ps := ["items"]) fun _ _ _ _ _ _ us hl => match us, hl with | [_], _ => rfl
  have F_Maybe_text := fun_mk (st := s_Maybe_text) l_Maybe_text c_Maybe_text k_Maybe_text
  have b_Maybe_text := F_Maybe_text.binds (ps := ["self"]) fun _ _ _ _ _ _ us hl => match us, hl with | [_], _ => rfl
  have F_Again_text := fun_mk (st := s_Again_text) l_Again_text c_Again_text k_Again_text
  have b_Again_text := F_Again_text.binds (ps := ["self"]) fun _ _ _ _ _ _ us hl => match us, hl with | [_], _ => rfl
  have F__law_cell := fun_mk (st := s__law_cell) l__law_cell c__law_cell k__law_cell
  have b__law_cell := F__law_cell.binds (ps := ["_law_script", "_law_k"]) fun _ _ _ _ _ _ us hl => match us, hl with | [_, _], _ => rfl
  have F__law_signs := fun_mk (st := s__law_signs) l__law_signs c__law_signs k__law_signs
  have b__law_signs := F__law_signs.binds (ps := []) fun _ _ _ _ _ _ us hl => match us, hl with | [], _ => rfl
  have F__law_fixed_by := fun_mk (st := s__law_fixed_by) l__law_fixed_by c__law_fixed_by k__law_fixed_by
  have b__law_fixed_by := F__law_fixed_by.binds (ps := ["_law_cell_here"]) fun _ _ _ _ _ _ us hl => match us, hl with | [_], _ => rfl
  have F__law_part_by := fun_mk (st := s__law_part_by) l__law_part_by c__law_part_by k__law_part_by
  have b__law_part_by := F__law_part_by.binds (ps := ["_law_cell_here"]) fun _ _ _ _ _ _ us hl => match us, hl with | [_], _ => rfl
  have F__law_plain_item := fun_mk (st := s__law_plain_item) l__law_plain_item c__law_plain_item k__law_plain_item
  have b__law_plain_item := F__law_plain_item.binds (ps := ["_law_cell_here"]) fun _ _ _ _ _ _ us hl => match us, hl with | [_], _ => rfl
  have F__law_item_by := fun_mk (st := s__law_item_by) l__law_item_by c__law_item_by k__law_item_by
  have b__law_item_by := F__law_item_by.binds (ps := ["_law_script", "_law_k"]) fun _ _ _ _ _ _ us hl => match us, hl with | [_, _], _ => rfl
  have F__law_word_text := fun_mk (st := s__law_word_text) l__law_word_text c__law_word_text k__law_word_text
  have b__law_word_text := F__law_word_text.binds (ps := ["_law_kind"]) fun _ _ _ _ _ _ us hl => match us, hl with | [_], _ => rfl
  have F__law_made_item := fun_mk (st := s__law_made_item) l__law_made_item c__law_made_item k__law_made_item
  have b__law_made_item := F__law_made_item.binds (ps := ["_law_told_here"]) fun _ _ _ _ _ _ us hl => match us, hl with | [_], _ => rfl
  have F__law_item_text := fun_mk (st := s__law_item_text) l__law_item_text c__law_item_text k__law_item_text
  have b__law_item_text := F__law_item_text.binds (ps := ["_law_told_here"]) fun _ _ _ _ _ _ us hl => match us, hl with | [_], _ => rfl
  have F_Item_inner := fun_mk (st := s_Item_inner) l_Item_inner c_Item_inner k_Item_inner
  have b_Item_inner := F_Item_inner.binds (ps := ["self"]) fun _ _ _ _ _ _ us hl => match us, hl with | [_], _ => rfl
  have F_Maybe_inner := fun_mk (st := s_Maybe_inner) l_Maybe_inner c_Maybe_inner k_Maybe_inner
  have b_Maybe_inner := F_Maybe_inner.binds (ps := ["self"]) fun _ _ _ _ _ _ us hl => match us, hl with | [_], _ => rfl
  have F_Again_inner := fun_mk (st := s_Again_inner) l_Again_inner c_Again_inner k_Again_inner
  have b_Again_inner := F_Again_inner.binds (ps := ["self"]) fun _ _ _ _ _ _ us hl => match us, hl with | [_], _ => rfl
  have F_Item_size := fun_mk (st := s_Item_size) l_Item_size c_Item_size k_Item_size
  have b_Item_size := F_Item_size.binds (ps := ["self"]) fun _ _ _ _ _ _ us hl => match us, hl with | [_], _ => rfl
  have F_need := fun_mk (st := s_need) l_need c_need k_need
  have b_need := F_need.binds (ps := ["good"]) fun _ _ _ _ _ _ us hl => match us, hl with | [_], _ => rfl
  have F_need_level := fun_mk (st := s_need_level) l_need_level c_need_level k_need_level
  have b_need_level := F_need_level.binds (ps := ["way", "words"]) fun _ _ _ _ _ _ us hl => match us, hl with | [_, _], _ => rfl
  have F_place_of := fun_mk (st := s_place_of) l_place_of c_place_of k_place_of
  have b_place_of := F_place_of.binds (ps := ["way"]) fun _ _ _ _ _ _ us hl => match us, hl with | [_], _ => rfl
  have F_Choice___init__ := fun_mk (st := s_Choice___init__) l_Choice___init__ c_Choice___init__ k_Choice___init__
  have b_Choice___init__ := F_Choice___init__.binds (ps := ["self", "part", "label", "things"]) fun _ _ _ _ _ _ us hl => match us, hl with | [_, _, _, _], _ => rfl
  have F_Joins___init__ := fun_mk (st := s_Joins___init__) l_Joins___init__ c_Joins___init__ k_Joins___init__
  have b_Joins___init__ := F_Joins___init__.binds (ps := ["self", "part", "of", "brackets", "levels"]) fun _ _ _ _ _ _ us hl => match us, hl with | [_, _, _, _, _], _ => rfl
  have F_Grammar___init__ := fun_mk (st := s_Grammar___init__) l_Grammar___init__ c_Grammar___init__ k_Grammar___init__
  have b_Grammar___init__ := F_Grammar___init__.binds (ps := ["self", "start", "choices", "joins"]) fun _ _ _ _ _ _ us hl => match us, hl with | [_, _, _, _], _ => rfl
  have F_choice_text := fun_mk (st := s_choice_text) l_choice_text c_choice_text k_choice_text
  have b_choice_text := F_choice_text.binds (ps := ["choice"]) fun _ _ _ _ _ _ us hl => match us, hl with | [_], _ => rfl
  have F_joins_text := fun_mk (st := s_joins_text) l_joins_text c_joins_text k_joins_text
  have b_joins_text := F_joins_text.binds (ps := ["one"]) fun _ _ _ _ _ _ us hl => match us, hl with | [_], _ => rfl
  have F_written := fun_mk (st := s_written) l_written c_written k_written
  have b_written := F_written.binds (ps := ["grammar"]) fun _ _ _ _ _ _ us hl => match us, hl with | [_], _ => rfl
  have F__law_label_by := fun_mk (st := s__law_label_by) l__law_label_by c__law_label_by k__law_label_by
  have b__law_label_by := F__law_label_by.binds (ps := ["_law_cell_here"]) fun _ _ _ _ _ _ us hl => match us, hl with | [_], _ => rfl
  have F__law_joins_by := fun_mk (st := s__law_joins_by) l__law_joins_by c__law_joins_by k__law_joins_by
  have b__law_joins_by := F__law_joins_by.binds (ps := ["_law_script", "_law_k", "_law_part"]) fun _ _ _ _ _ _ us hl => match us, hl with | [_, _, _], _ => rfl
  have F__law_size := fun_mk (st := s__law_size) l__law_size c__law_size k__law_size
  have b__law_size := F__law_size.binds (ps := ["_law_told_here"]) fun _ _ _ _ _ _ us hl => match us, hl with | [_], _ => rfl
  have F__law_grammar_by := fun_mk (st := s__law_grammar_by) l__law_grammar_by c__law_grammar_by k__law_grammar_by
  have b__law_grammar_by := F__law_grammar_by.binds (ps := ["_law_script", "_law_first", "_law_most"]) fun _ _ _ _ _ _ us hl => match us, hl with | [_, _, _], _ => rfl
  have F__law_made := fun_mk (st := s__law_made) l__law_made c__law_made k__law_made
  have b__law_made := F__law_made.binds (ps := ["_law_told_here"]) fun _ _ _ _ _ _ us hl => match us, hl with | [_], _ => rfl
  have F__law_told := fun_mk (st := s__law_told) l__law_told c__law_told k__law_told
  have b__law_told := F__law_told.binds (ps := ["_law_grammar"]) fun _ _ _ _ _ _ us hl => match us, hl with | [_], _ => rfl
  have F__law_rows := fun_mk (st := s__law_rows) l__law_rows c__law_rows k__law_rows
  have b__law_rows := F__law_rows.binds (ps := ["_law_told_here"]) fun _ _ _ _ _ _ us hl => match us, hl with | [_], _ => rfl
  have F_law := fun_mk (st := s_law) l_law c_law k_law
  have b_law := F_law.binds (ps := ["_law_script"]) fun _ _ _ _ _ _ us hl => match us, hl with | [_], _ => rfl
  refine ⟨PySem.W.fnOf "law" "law" (defArgs s_law) (defBody s_law) (defScope s_law) .none kV_law dc_law pm_law an_law cd_law ct_law, fun s v => .of_eq rfl, fun base _ _ => ?_⟩
  have G_is_of : GD l.prog w K mg base 1 "is_of" ["text", "signs", "most"] (spD K R_is_of) := gd_of (N := ["text", "signs", "most", "sign"]) (ps := ["text", "signs", "most"]) (k := 0) (R := R_is_of) F_is_of (PySem.W.mg_of X G a_is_of) b_is_of sc_is_of len_is_of (p_is_of (PySem.W.mg_none_of X G z_len) (PySem.W.mg_none_of X G z_all)) h_is_of
  have G_is_fixed : GD l.prog w K mg base 2 "is_fixed" ["thing"] (spD K R_is_fixed) := gd_of (N := ["thing"]) (ps := ["thing"]) (k := 1) (R := R_is_fixed) F_is_fixed (PySem.W.mg_of X G a_is_fixed) b_is_fixed sc_is_fixed len_is_fixed (p_is_fixed (G_is_of.mono (by decide)) (PySem.W.mg_of X G n_LETTERS) rv_LETTERS (PySem.W.mg_of X G n_MOST_LETTERS_words) rv_MOST_LETTERS_words (PySem.W.mg_of X G n_SIGNS) rv_SIGNS (PySem.W.mg_of X G n_MOST_SIGNS) rv_MOST_SIGNS (PySem.W.mg_none_of X G z_isinstance) (PySem.W.mg_none_of X G z_str)) (h_is_fixed hd_LETTERS hd_MOST_LETTERS_words hd_SIGNS hd_MOST_SIGNS)
  have G_is_kind : GD l.prog w K mg base 3 "is_kind" ["thing"] (spD K R_is_kind) := gd_of (N := ["thing"]) (ps := ["thing"]) (k := 2) (R := R_is_kind) F_is_kind (PySem.W.mg_of X G a_is_kind) b_is_kind sc_is_kind len_is_kind (p_is_kind (G_is_fixed.mono (by decide)) (PySem.W.mg_of X G n_OPEN) rv_OPEN (PySem.W.mg_none_of X G z_isinstance) (PySem.W.mg_none_of X G z_str)) (h_is_kind hd_OPEN)
  have G_fixed_of : GD l.prog w K mg base 1 "fixed_of" ["kind"] (spD K R_fixed_of) := gd_of (N := ["kind"]) (ps := ["kind"]) (k := 0) (R := R_fixed_of) F_fixed_of (PySem.W.mg_of X G a_fixed_of) b_fixed_of sc_fixed_of len_fixed_of (p_fixed_of (PySem.W.mg_of X G n_OPEN) rv_OPEN) (h_fixed_of hd_OPEN)
  have G_is_name : GD l.prog w K mg base 2 "is_name" ["text"] (spD K R_is_name) := gd_of (N := ["text"]) (ps := ["text"]) (k := 1) (R := R_is_name) F_is_name (PySem.W.mg_of X G a_is_name) b_is_name sc_is_name len_is_name (p_is_name (G_is_of.mono (by decide)) (PySem.W.mg_of X G n_LETTERS) rv_LETTERS (PySem.W.mg_of X G n_MOST_LETTERS_items) rv_MOST_LETTERS_items (PySem.W.mg_of X G n_KEPT) rv_KEPT) (h_is_name hd_LETTERS hd_MOST_LETTERS_items hd_KEPT)
  have G_need_name : GX l.prog w K mg base 3 "need_name" ["text"] (spO K (R_need_name x_NoGrammar)) := gx_of (N := ["text"]) (ps := ["text"]) (k := 2) (R := (R_need_name x_NoGrammar)) (T := fun W => T_need_name K _ _ W) F_need_name (PySem.W.mg_of X G a_need_name) b_need_name sc_need_name len_need_name (p_need_name (G_is_name.mono (by decide)) x0_NoGrammar) h_need_name
  have G_quoted : GD l.prog w K mg base 1 "quoted" ["word"] (spD K R_quoted) := gd_of (N := ["word"]) (ps := ["word"]) (k := 0) (R := R_quoted) F_quoted (PySem.W.mg_of X G a_quoted) b_quoted sc_quoted len_quoted (p_quoted) h_quoted
  have G_Part___init__ : CD l.prog w K mg base 4 "Part" x_Part [] (spInit K x_Part (R_Part (Cs.mk x_Part x_Word x_Maybe x_Again) x_NoGrammar)) := ⟨PySem.W.mg_of X G n_Part, f_Part___init__, _, ["self", "name"], [], ⟨mk_Part, a_Part___init__, if_Part___init__, kp_Part⟩, fn_init (N := ["name"]) (ps := ["name"]) (k := 3) (C := x_Part) (R := (R_Part (Cs.mk x_Part x_Word x_Maybe x_Again) x_NoGrammar)) (T := fun W => T_Part___init__ K _ W) F_Part___init__ sc_Part___init__ len_Part (p_Part___init__ (G_need_name.mono (by decide))) (h_Part___init__ kc), b_Part___init__, .nil⟩
  have G_Word___init__ : CD l.prog w K mg base 4 "Word" x_Word [] (spInit K x_Word (R_Word (Cs.mk x_Part x_Word x_Maybe x_Again) x_NoGrammar)) := ⟨PySem.W.mg_of X G n_Word, f_Word___init__, _, ["self", "kind"], [], ⟨mk_Word, a_Word___init__, if_Word___init__, kp_Word⟩, fn_init (N := ["kind"]) (ps := ["kind"]) (k := 3) (C := x_Word) (R := (R_Word (Cs.mk x_Part x_Word x_Maybe x_Again) x_NoGrammar)) (T := fun W => T_Word___init__ K _ _ W) F_Word___init__ sc_Word___init__ len_Word (p_Word___init__ (G_is_kind.mono (by decide)) x0_NoGrammar) (h_Word___init__ kc), b_Word___init__, .nil⟩
  have G_need_inner : GX l.prog w K mg base 1 "need_inner" ["items"] (spO K (R_need_inner (Cs.mk x_Part x_Word x_Maybe x_Again) x_NoGrammar)) := gx_of (N := ["items", "item"]) (ps := ["items"]) (k := 0) (R := (R_need_inner (Cs.mk x_Part x_Word x_Maybe x_Again) x_NoGrammar)) (T := fun W => T_need_inner K _ _ _ W) F_need_inner (PySem.W.mg_of X G a_need_inner) b_need_inner sc_need_inner len_need_inner (p_need_inner (PySem.W.mg_of X G n_Part) (PySem.W.mg_of X G n_Word) x0_NoGrammar (PySem.W.mg_none_of X G z_len) (PySem.W.mg_none_of X G z_all) (PySem.W.mg_none_of X G z_isinstance)) (h_need_inner kc)
  have G_Maybe___init__ : CD l.prog w K mg base 2 "Maybe" x_Maybe [] (spInit K x_Maybe (R_Maybe (Cs.mk x_Part x_Word x_Maybe x_Again) x_NoGrammar)) := ⟨PySem.W.mg_of X G n_Maybe, f_Maybe___init__, _, ["self", "things"], [], ⟨mk_Maybe, a_Maybe___init__, if_Maybe___init__, kp_Maybe⟩, fn_init (N := ["things"]) (ps := ["things"]) (k := 1) (C := x_Maybe) (R := (R_Maybe (Cs.mk x_Part x_Word x_Maybe x_Again) x_NoGrammar)) (T := fun W => T_Maybe___init__ K _ W) F_Maybe___init__ sc_Maybe___init__ len_Maybe (p_Maybe___init__ (G_need_inner.mono (by decide)) (PySem.W.mg_none_of X G z_tuple)) (h_Maybe___init__ kc), b_Maybe___init__, .nil⟩
  have G_Again___init___0 : CD l.prog w K mg base 4 "Again" x_Again [] (spInit K x_Again (R_Again (Cs.mk x_Part x_Word x_Maybe x_Again) x_NoGrammar)) := by
    obtain ⟨ds, v, b⟩ := bd0_Again___init__
    exact ⟨PySem.W.mg_of X G n_Again, f_Again___init__, _, ["self", "things", "between"], ds, ⟨mk_Again, a_Again___init__, if_Again___init__, kp_Again⟩, fn_initD (N := ["things", "between"]) (ps := ["things", "between"]) (k := 3) (C := x_Again) (R := (R_Again (Cs.mk x_Part x_Word x_Maybe x_Again) x_NoGrammar)) (T := fun W => T_Again___init__ K _ _ _ _ W) F_Again___init__ sc_Again___init__ len_Again (p_Again___init__ (G_need_inner.mono (by decide)) (G_is_kind.mono (by decide)) (G_is_fixed.mono (by decide)) x0_NoGrammar (PySem.W.mg_none_of X G z_tuple)) (h_Again___init__ kc), b, v⟩
  have G_Again___init___1 : CD l.prog w K mg base 4 "Again" x_Again [.non] (spInit K x_Again (R_Again (Cs.mk x_Part x_Word x_Maybe x_Again) x_NoGrammar)) := by
    obtain ⟨ds, v, b⟩ := bd1_Again___init__
    exact ⟨PySem.W.mg_of X G n_Again, f_Again___init__, _, ["self", "things", "between"], ds, ⟨mk_Again, a_Again___init__, if_Again___init__, kp_Again⟩, fn_initD (N := ["things", "between"]) (ps := ["things", "between"]) (k := 3) (C := x_Again) (R := (R_Again (Cs.mk x_Part x_Word x_Maybe x_Again) x_NoGrammar)) (T := fun W => T_Again___init__ K _ _ _ _ W) F_Again___init__ sc_Again___init__ len_Again (p_Again___init__ (G_need_inner.mono (by decide)) (G_is_kind.mono (by decide)) (G_is_fixed.mono (by decide)) x0_NoGrammar (PySem.W.mg_none_of X G z_tuple)) (h_Again___init__ kc), b, v⟩
  have O_Part_told : FnOk l.prog w K mg base (L2.CX l.prog w) 1 f_Part_told _ ["self"] (spO K (R_Part_told (Cs.mk x_Part x_Word x_Maybe x_Again))) := fn_dx (N := ["self"]) (ps := ["self"]) (k := 0) (R := (R_Part_told (Cs.mk x_Part x_Word x_Maybe x_Again))) (T := fun W => T_Part_told K W) F_Part_told sc_Part_told len_Part_told (p_Part_told) (h_Part_told kc)
  have G_Part_told : MD l.prog w K mg base 1 "told" x_Part (spO K (R_Part_told (Cs.mk x_Part x_Word x_Maybe x_Again))) := ⟨cl_Part, f_Part_told, _, ["self"], ⟨a_Part_told, if_Part_told, k_Part_told⟩, O_Part_told, b_Part_told⟩
  have O_Word_told : FnOk l.prog w K mg base (L2.CX l.prog w) 1 f_Word_told _ ["self"] (spO K (R_Word_told (Cs.mk x_Part x_Word x_Maybe x_Again))) := fn_dx (N := ["self"]) (ps := ["self"]) (k := 0) (R := (R_Word_told (Cs.mk x_Part x_Word x_Maybe x_Again))) (T := fun W => T_Word_told K W) F_Word_told sc_Word_told len_Word_told (p_Word_told) (h_Word_told kc)
  have G_Word_told : MD l.prog w K mg base 1 "told" x_Word (spO K (R_Word_told (Cs.mk x_Part x_Word x_Maybe x_Again))) := ⟨cl_Word, f_Word_told, _, ["self"], ⟨a_Word_told, if_Word_told, k_Word_told⟩, O_Word_told, b_Word_told⟩
  have O_Part_text : FnOk l.prog w K mg base (L2.CX l.prog w) 1 f_Part_text _ ["self"] (spO K (R_Part_text (Cs.mk x_Part x_Word x_Maybe x_Again))) := fn_dx (N := ["self"]) (ps := ["self"]) (k := 0) (R := (R_Part_text (Cs.mk x_Part x_Word x_Maybe x_Again))) (T := fun W => T_Part_text K W) F_Part_text sc_Part_text len_Part_text (p_Part_text) (h_Part_text kc)
  have G_Part_text : MD l.prog w K mg base 1 "text" x_Part (spO K (R_Part_text (Cs.mk x_Part x_Word x_Maybe x_Again))) := ⟨cl_Part, f_Part_text, _, ["self"], ⟨a_Part_text, if_Part_text, k_Part_text⟩, O_Part_text, b_Part_text⟩
  have O_Word_text : FnOk l.prog w K mg base (L2.CX l.prog w) 2 f_Word_text _ ["self"] (spO K (R_Word_text (Cs.mk x_Part x_Word x_Maybe x_Again))) := fn_dx (N := ["self"]) (ps := ["self"]) (k := 1) (R := (R_Word_text (Cs.mk x_Part x_Word x_Maybe x_Again))) (T := fun W => T_Word_text K _ _ _ W) F_Word_text sc_Word_text len_Word_text (p_Word_text (G_quoted.mono (by decide)) (G_fixed_of.mono (by decide)) (PySem.W.mg_of X G n_OPEN) rv_OPEN) (h_Word_text hd_OPEN kc)
  have G_Word_text : MD l.prog w K mg base 2 "text" x_Word (spO K (R_Word_text (Cs.mk x_Part x_Word x_Maybe x_Again))) := ⟨cl_Word, f_Word_text, _, ["self"], ⟨a_Word_text, if_Word_text, k_Word_text⟩, O_Word_text, b_Word_text⟩
  have O_Maybe_told : FnOk l.prog w K mg base (L2.CX l.prog w) 2 f_Maybe_told _ ["self"] (spO K (R_Maybe_told (Cs.mk x_Part x_Word x_Maybe x_Again))) := fn_dx (N := ["self", "item"]) (ps := ["self"]) (k := 1) (R := (R_Maybe_told (Cs.mk x_Part x_Word x_Maybe x_Again))) (T := fun W => T_Maybe_told K _ W) F_Maybe_told sc_Maybe_told len_Maybe_told (p_Maybe_told (mds_cons (G_Part_told.mono (by decide)) (mds_cons (G_Word_told.mono (by decide)) mds_nil)) (PySem.W.mg_none_of X G z_tuple)) (h_Maybe_told kc)
  have G_Maybe_told : MD l.prog w K mg base 2 "told" x_Maybe (spO K (R_Maybe_told (Cs.mk x_Part x_Word x_Maybe x_Again))) := ⟨cl_Maybe, f_Maybe_told, _, ["self"], ⟨a_Maybe_told, if_Maybe_told, k_Maybe_told⟩, O_Maybe_told, b_Maybe_told⟩
  have O_Again_told : FnOk l.prog w K mg base (L2.CX l.prog w) 2 f_Again_told _ ["self"] (spO K (R_Again_told (Cs.mk x_Part x_Word x_Maybe x_Again))) := fn_dx (N := ["self", "item"]) (ps := ["self"]) (k := 1) (R := (R_Again_told (Cs.mk x_Part x_Word x_Maybe x_Again))) (T := fun W => T_Again_told K _ W) F_Again_told sc_Again_told len_Again_told (p_Again_told (mds_cons (G_Part_told.mono (by decide)) (mds_cons (G_Word_told.mono (by decide)) mds_nil)) (PySem.W.mg_none_of X G z_tuple)) (h_Again_told kc)
  have G_Again_told : MD l.prog w K mg base 2 "told" x_Again (spO K (R_Again_told (Cs.mk x_Part x_Word x_Maybe x_Again))) := ⟨cl_Again, f_Again_told, _, ["self"], ⟨a_Again_told, if_Again_told, k_Again_told⟩, O_Again_told, b_Again_told⟩
  have G_all_texts : GD l.prog w K mg base 3 "all_texts" ["items"] (spD K (R_all_texts (Cs.mk x_Part x_Word x_Maybe x_Again))) := gd_of (N := ["items", "item"]) (ps := ["items"]) (k := 2) (R := (R_all_texts (Cs.mk x_Part x_Word x_Maybe x_Again))) F_all_texts (PySem.W.mg_of X G a_all_texts) b_all_texts sc_all_texts len_all_texts (p_all_texts (mds_cons (G_Part_text.mono (by decide)) (mds_cons (G_Word_text.mono (by decide)) mds_nil))) h_all_texts
  have O_Maybe_text : FnOk l.prog w K mg base (L2.CX l.prog w) 4 f_Maybe_text _ ["self"] (spO K (R_Maybe_text (Cs.mk x_Part x_Word x_Maybe x_Again))) := fn_dx (N := ["self"]) (ps := ["self"]) (k := 3) (R := (R_Maybe_text (Cs.mk x_Part x_Word x_Maybe x_Again))) (T := fun W => T_Maybe_text K _ W) F_Maybe_text sc_Maybe_text len_Maybe_text (p_Maybe_text (G_all_texts.mono (by decide))) (h_Maybe_text kc)
  have G_Maybe_text : MD l.prog w K mg base 4 "text" x_Maybe (spO K (R_Maybe_text (Cs.mk x_Part x_Word x_Maybe x_Again))) := ⟨cl_Maybe, f_Maybe_text, _, ["self"], ⟨a_Maybe_text, if_Maybe_text, k_Maybe_text⟩, O_Maybe_text, b_Maybe_text⟩
  have O_Again_text : FnOk l.prog w K mg base (L2.CX l.prog w) 4 f_Again_text _ ["self"] (spO K (R_Again_text (Cs.mk x_Part x_Word x_Maybe x_Again))) := fn_dx (N := ["self", "end"]) (ps := ["self"]) (k := 3) (R := (R_Again_text (Cs.mk x_Part x_Word x_Maybe x_Again))) (T := fun W => T_Again_text K _ _ _ W) F_Again_text sc_Again_text len_Again_text (p_Again_text (G_quoted.mono (by decide)) (G_fixed_of.mono (by decide)) (G_all_texts.mono (by decide))) (h_Again_text kc)
  have G_Again_text : MD l.prog w K mg base 4 "text" x_Again (spO K (R_Again_text (Cs.mk x_Part x_Word x_Maybe x_Again))) := ⟨cl_Again, f_Again_text, _, ["self"], ⟨a_Again_text, if_Again_text, k_Again_text⟩, O_Again_text, b_Again_text⟩
  have G__law_cell : GD l.prog w K mg base 1 "_law_cell" ["_law_script", "_law_k"] (spD K R__law_cell) := gd_of (N := ["_law_script", "_law_k", "_law_cell_here", "_law_more"]) (ps := ["_law_script", "_law_k"]) (k := 0) (R := R__law_cell) F__law_cell (PySem.W.mg_of X G a__law_cell) b__law_cell sc__law_cell len__law_cell (p__law_cell (PySem.W.mg_none_of X G z_len)) h__law_cell
  have G__law_signs : GD l.prog w K mg base 1 "_law_signs" [] (spD K R__law_signs) := gd_of (N := []) (ps := []) (k := 0) (R := R__law_signs) F__law_signs (PySem.W.mg_of X G a__law_signs) b__law_signs sc__law_signs len__law_signs (p__law_signs) h__law_signs
  have G__law_fixed_by : GD l.prog w K mg base 2 "_law_fixed_by" ["_law_cell_here"] (spD K R__law_fixed_by) := gd_of (N := ["_law_cell_here", "_law_letters", "_law_usual", "_law_step", "_law_k"]) (ps := ["_law_cell_here"]) (k := 1) (R := R__law_fixed_by) F__law_fixed_by (PySem.W.mg_of X G a__law_fixed_by) b__law_fixed_by sc__law_fixed_by len__law_fixed_by (p__law_fixed_by (G__law_signs.mono (by decide)) (PySem.W.mg_none_of X G z_range)) h__law_fixed_by
  have G__law_part_by : GD l.prog w K mg base 1 "_law_part_by" ["_law_cell_here"] (spD K R__law_part_by) := gd_of (N := ["_law_cell_here"]) (ps := ["_law_cell_here"]) (k := 0) (R := R__law_part_by) F__law_part_by (PySem.W.mg_of X G a__law_part_by) b__law_part_by sc__law_part_by len__law_part_by (p__law_part_by) h__law_part_by
  have G__law_plain_item : GD l.prog w K mg base 3 "_law_plain_item" ["_law_cell_here"] (spD K R__law_plain_item) := gd_of (N := ["_law_cell_here"]) (ps := ["_law_cell_here"]) (k := 2) (R := R__law_plain_item) F__law_plain_item (PySem.W.mg_of X G a__law_plain_item) b__law_plain_item sc__law_plain_item len__law_plain_item (p__law_plain_item (G__law_part_by.mono (by decide)) (G__law_fixed_by.mono (by decide))) h__law_plain_item
  have G__law_item_by : GD l.prog w K mg base 4 "_law_item_by" ["_law_script", "_law_k"] (spD K R__law_item_by) := gd_of (N := ["_law_script", "_law_k", "_law_more", "_law_inner", "_law_j"]) (ps := ["_law_script", "_law_k"]) (k := 3) (R := R__law_item_by) F__law_item_by (PySem.W.mg_of X G a__law_item_by) b__law_item_by sc__law_item_by len__law_item_by (p__law_item_by (G__law_cell.mono (by decide)) (G__law_plain_item.mono (by decide)) (G__law_fixed_by.mono (by decide)) (PySem.W.mg_none_of X G z_tuple) (PySem.W.mg_none_of X G z_range)) h__law_item_by
  have G__law_word_text : GD l.prog w K mg base 1 "_law_word_text" ["_law_kind"] (spD K R__law_word_text) := gd_of (N := ["_law_kind"]) (ps := ["_law_kind"]) (k := 0) (R := R__law_word_text) F__law_word_text (PySem.W.mg_of X G a__law_word_text) b__law_word_text sc__law_word_text len__law_word_text (p__law_word_text) h__law_word_text
  have G_mades : GX l.prog w K mg base 1 "_law_made_item" ["_law_told_here"] (spO K fun _ _ => False) := gx_none F__law_made_item (PySem.W.mg_of X G a__law_made_item) b__law_made_item
  have G_made0 : GX l.prog w K mg base 6 "_law_made_item" ["_law_told_here"] (spO K (R_made0 (Cs.mk x_Part x_Word x_Maybe x_Again))) := gx_of (N := ["_law_told_here", "_law_inner", "_law_one"]) (ps := ["_law_told_here"]) (k := 5) (R := (R_made0 (Cs.mk x_Part x_Word x_Maybe x_Again))) (T := fun W => T__law_made_item K _ _ _ _ _ _ _ _ _ _ W) F__law_made_item (PySem.W.mg_of X G a__law_made_item) b__law_made_item sc__law_made_item len_made0 (p__law_made_item (G_mades.mono (by decide)) G_Part___init__ (by decide) G_Word___init__ (by decide) G_Maybe___init__ (by decide) G_Again___init___1 (by decide) G_Again___init___0 (by decide) kp_Part kp_Word kp_Maybe kp_Again) h_made0
  have G_made : GX l.prog w K mg base 7 "_law_made_item" ["_law_told_here"] (spO K (R_made (Cs.mk x_Part x_Word x_Maybe x_Again))) := gx_of (N := ["_law_told_here", "_law_inner", "_law_one"]) (ps := ["_law_told_here"]) (k := 6) (R := (R_made (Cs.mk x_Part x_Word x_Maybe x_Again))) (T := fun W => T__law_made_item K _ _ _ _ _ _ _ _ _ _ W) F__law_made_item (PySem.W.mg_of X G a__law_made_item) b__law_made_item sc__law_made_item len_made (p__law_made_item (G_made0.mono (by decide)) G_Part___init__ (by decide) G_Word___init__ (by decide) G_Maybe___init__ (by decide) G_Again___init___1 (by decide) G_Again___init___0 (by decide) kp_Part kp_Word kp_Maybe kp_Again) h_made
  have G_itxs : GD l.prog w K mg base 1 "_law_item_text" ["_law_told_here"] (spD K fun _ _ => False) := gd_none F__law_item_text (PySem.W.mg_of X G a__law_item_text) b__law_item_text
  have G_itx0 : GD l.prog w K mg base 2 "_law_item_text" ["_law_told_here"] (spD K R_itx0) := gd_of (N := ["_law_told_here", "_law_inner", "_law_one"]) (ps := ["_law_told_here"]) (k := 1) (R := R_itx0) F__law_item_text (PySem.W.mg_of X G a__law_item_text) b__law_item_text sc__law_item_text len_itx0 (p__law_item_text (G__law_word_text.mono (by decide)) (G_itxs.mono (by decide)) (PySem.W.mg_none_of X G z_str) (PySem.W.mg_none_of X G z_int)) h_itx0
  have G_itx : GD l.prog w K mg base 3 "_law_item_text" ["_law_told_here"] (spD K R_itx) := gd_of (N := ["_law_told_here", "_law_inner", "_law_one"]) (ps := ["_law_told_here"]) (k := 2) (R := R_itx) F__law_item_text (PySem.W.mg_of X G a__law_item_text) b__law_item_text sc__law_item_text len_itx (p__law_item_text (G__law_word_text.mono (by decide)) (G_itx0.mono (by decide)) (PySem.W.mg_none_of X G z_str) (PySem.W.mg_none_of X G z_int)) h_itx
  have O_Item_inner : FnOk l.prog w K mg base (L2.CX l.prog w) 1 f_Item_inner _ ["self"] (spO K (R_inner0 (Cs.mk x_Part x_Word x_Maybe x_Again))) := fn_dx (N := ["self"]) (ps := ["self"]) (k := 0) (R := (R_inner0 (Cs.mk x_Part x_Word x_Maybe x_Again))) (T := fun W => T_Item_inner K W) F_Item_inner sc_Item_inner len_inner0 (p_Item_inner) h_Item_inner
  have G_Item_inner : MD l.prog w K mg base 1 "inner" x_Item (spO K (R_inner0 (Cs.mk x_Part x_Word x_Maybe x_Again))) := ⟨cl_Item, f_Item_inner, _, ["self"], ⟨a_Item_inner, if_Item_inner, k_Item_inner⟩, O_Item_inner, b_Item_inner⟩
  have G_Part_inner : MD l.prog w K mg base 1 "inner" x_Part (spO K (R_inner0 (Cs.mk x_Part x_Word x_Maybe x_Again))) := ⟨cl_Part, f_Item_inner, _, ["self"], ⟨a_Part_inner, if_Item_inner, k_Item_inner⟩, O_Item_inner, b_Item_inner⟩
  have G_Word_inner : MD l.prog w K mg base 1 "inner" x_Word (spO K (R_inner0 (Cs.mk x_Part x_Word x_Maybe x_Again))) := ⟨cl_Word, f_Item_inner, _, ["self"], ⟨a_Word_inner, if_Item_inner, k_Item_inner⟩, O_Item_inner, b_Item_inner⟩
  have O_Maybe_inner : FnOk l.prog w K mg base (L2.CX l.prog w) 1 f_Maybe_inner _ ["self"] (spO K (R_innerM (Cs.mk x_Part x_Word x_Maybe x_Again))) := fn_dx (N := ["self"]) (ps := ["self"]) (k := 0) (R := (R_innerM (Cs.mk x_Part x_Word x_Maybe x_Again))) (T := fun W => T_Maybe_inner K W) F_Maybe_inner sc_Maybe_inner len_innerM (p_Maybe_inner) (h_Maybe_inner kc)
  have G_Maybe_inner : MD l.prog w K mg base 1 "inner" x_Maybe (spO K (R_innerM (Cs.mk x_Part x_Word x_Maybe x_Again))) := ⟨cl_Maybe, f_Maybe_inner, _, ["self"], ⟨a_Maybe_inner, if_Maybe_inner, k_Maybe_inner⟩, O_Maybe_inner, b_Maybe_inner⟩
  have O_Again_inner : FnOk l.prog w K mg base (L2.CX l.prog w) 1 f_Again_inner _ ["self"] (spO K (R_innerA (Cs.mk x_Part x_Word x_Maybe x_Again))) := fn_dx (N := ["self"]) (ps := ["self"]) (k := 0) (R := (R_innerA (Cs.mk x_Part x_Word x_Maybe x_Again))) (T := fun W => T_Again_inner K W) F_Again_inner sc_Again_inner len_innerA (p_Again_inner) (h_Again_inner kc)
  have G_Again_inner : MD l.prog w K mg base 1 "inner" x_Again (spO K (R_innerA (Cs.mk x_Part x_Word x_Maybe x_Again))) := ⟨cl_Again, f_Again_inner, _, ["self"], ⟨a_Again_inner, if_Again_inner, k_Again_inner⟩, O_Again_inner, b_Again_inner⟩
  have O_Item_size : FnOk l.prog w K mg base (L2.CX l.prog w) 2 f_Item_size _ ["self"] (spO K (R_size (Cs.mk x_Part x_Word x_Maybe x_Again))) := fn_dx (N := ["self"]) (ps := ["self"]) (k := 1) (R := (R_size (Cs.mk x_Part x_Word x_Maybe x_Again))) (T := fun W => T_Item_size K _ W) F_Item_size sc_Item_size len_size (p_Item_size (mds_cons (G_Part_inner.mono (by decide)) (mds_cons (G_Word_inner.mono (by decide)) (mds_cons (G_Maybe_inner.mono (by decide)) (mds_cons (G_Again_inner.mono (by decide)) mds_nil)))) (PySem.W.mg_none_of X G z_len)) h_Item_size
  have G_Item_size : MD l.prog w K mg base 2 "size" x_Item (spO K (R_size (Cs.mk x_Part x_Word x_Maybe x_Again))) := ⟨cl_Item, f_Item_size, _, ["self"], ⟨a_Item_size, if_Item_size, k_Item_size⟩, O_Item_size, b_Item_size⟩
  have G_Part_size : MD l.prog w K mg base 2 "size" x_Part (spO K (R_size (Cs.mk x_Part x_Word x_Maybe x_Again))) := ⟨cl_Part, f_Item_size, _, ["self"], ⟨a_Part_size, if_Item_size, k_Item_size⟩, O_Item_size, b_Item_size⟩
  have G_Word_size : MD l.prog w K mg base 2 "size" x_Word (spO K (R_size (Cs.mk x_Part x_Word x_Maybe x_Again))) := ⟨cl_Word, f_Item_size, _, ["self"], ⟨a_Word_size, if_Item_size, k_Item_size⟩, O_Item_size, b_Item_size⟩
  have G_Maybe_size : MD l.prog w K mg base 2 "size" x_Maybe (spO K (R_size (Cs.mk x_Part x_Word x_Maybe x_Again))) := ⟨cl_Maybe, f_Item_size, _, ["self"], ⟨a_Maybe_size, if_Item_size, k_Item_size⟩, O_Item_size, b_Item_size⟩
  have G_Again_size : MD l.prog w K mg base 2 "size" x_Again (spO K (R_size (Cs.mk x_Part x_Word x_Maybe x_Again))) := ⟨cl_Again, f_Item_size, _, ["self"], ⟨a_Again_size, if_Item_size, k_Item_size⟩, O_Item_size, b_Item_size⟩
  have G_need : GX l.prog w K mg base 1 "need" ["good"] (spO K (R_need x_NoGrammar)) := gx_of (N := ["good"]) (ps := ["good"]) (k := 0) (R := (R_need x_NoGrammar)) (T := fun W => T_need K _ W) F_need (PySem.W.mg_of X G a_need) b_need sc_need len_need (p_need x0_NoGrammar) h_need
  have G_need_level : GX l.prog w K mg base 3 "need_level" ["way", "words"] (spO K (R_need_level x_NoGrammar)) := gx_of (N := ["way", "words", "word"]) (ps := ["way", "words"]) (k := 2) (R := (R_need_level x_NoGrammar)) (T := fun W => T_need_level K _ _ _ _ W) F_need_level (PySem.W.mg_of X G a_need_level) b_need_level sc_need_level len_need_level (p_need_level (G_need.mono (by decide)) (G_is_fixed.mono (by decide)) (PySem.W.mg_of X G n_WAYS) rv_WAYS (PySem.W.mg_of X G n_MOST_WORDS) rv_MOST_WORDS (PySem.W.mg_none_of X G z_len) (PySem.W.mg_none_of X G z_all)) (h_need_level hd_WAYS hd_MOST_WORDS)
  have G_place_of : GD l.prog w K mg base 1 "place_of" ["way"] (spD K R_place_of) := gd_of (N := ["way"]) (ps := ["way"]) (k := 0) (R := R_place_of) F_place_of (PySem.W.mg_of X G a_place_of) b_place_of sc_place_of len_place_of (p_place_of (PySem.W.mg_of X G n_BETWEEN) rv_BETWEEN) (h_place_of hd_BETWEEN)
  have G_Choice___init__ : CD l.prog w K mg base 4 "Choice" x_Choice [] (spInit K x_Choice (R_Choice (Cs.mk x_Part x_Word x_Maybe x_Again) (Cg.mk x_Choice x_Joins x_Grammar) x_NoGrammar)) := ⟨PySem.W.mg_of X G n_Choice, f_Choice___init__, _, ["self", "part", "label", "things"], [], ⟨mk_Choice, a_Choice___init__, if_Choice___init__, kp_Choice⟩, fn_init (N := ["part", "label", "things", "item"]) (ps := ["part", "label", "things"]) (k := 3) (C := x_Choice) (R := (R_Choice (Cs.mk x_Part x_Word x_Maybe x_Again) (Cg.mk x_Choice x_Joins x_Grammar) x_NoGrammar)) (T := fun W => T_Choice___init__ K _ _ _ _ _ W) F_Choice___init__ sc_Choice___init__ len_Choice (p_Choice___init__ (G_need_name.mono (by decide)) (G_need.mono (by decide)) (PySem.W.mg_of X G n_MOST_ITEMS) rv_MOST_ITEMS (PySem.W.mg_of X G n_Item) (mds_cons (G_Part_size.mono (by decide)) (mds_cons (G_Word_size.mono (by decide)) (mds_cons (G_Maybe_size.mono (by decide)) (mds_cons (G_Again_size.mono (by decide)) mds_nil)))) (PySem.W.mg_none_of X G z_all) (PySem.W.mg_none_of X G z_isinstance) (PySem.W.mg_none_of X G z_sum) (PySem.W.mg_none_of X G z_tuple)) (h_Choice___init__ hd_MOST_ITEMS kc ki kg), b_Choice___init__, .nil⟩
  have G_Joins___init__ : CD l.prog w K mg base 4 "Joins" x_Joins [] (spInit K x_Joins (R_Joins (Cg.mk x_Choice x_Joins x_Grammar) x_NoGrammar)) := ⟨PySem.W.mg_of X G n_Joins, f_Joins___init__, _, ["self", "part", "of", "brackets", "levels"], [], ⟨mk_Joins, a_Joins___init__, if_Joins___init__, kp_Joins⟩, fn_init (N := ["part", "of", "brackets", "levels", "seen", "way", "words", "word"]) (ps := ["part", "of", "brackets", "levels"]) (k := 3) (C := x_Joins) (R := (R_Joins (Cg.mk x_Choice x_Joins x_Grammar) x_NoGrammar)) (T := fun W => T_Joins___init__ K _ _ _ _ _ _ W) F_Joins___init__ sc_Joins___init__ len_Joins (p_Joins___init__ (G_need_name.mono (by decide)) (G_need.mono (by decide)) (G_is_fixed.mono (by decide)) (G_need_level.mono (by decide)) (G_place_of.mono (by decide)) (PySem.W.mg_of X G n_MOST_LEVELS) rv_MOST_LEVELS (PySem.W.mg_none_of X G z_len) (PySem.W.mg_none_of X G z_all) (PySem.W.mg_none_of X G z_tuple)) (h_Joins___init__ hd_MOST_LEVELS kg), b_Joins___init__, .nil⟩
  have G_Grammar___init__ : CD l.prog w K mg base 4 "Grammar" x_Grammar [] (spInit K x_Grammar (R_Grammar (Cs.mk x_Part x_Word x_Maybe x_Again) (Cg.mk x_Choice x_Joins x_Grammar) x_NoGrammar)) := ⟨PySem.W.mg_of X G n_Grammar, f_Grammar___init__, _, ["self", "start", "choices", "joins"], [], ⟨mk_Grammar, a_Grammar___init__, if_Grammar___init__, kp_Grammar⟩, fn_init (N := ["start", "choices", "joins", "labels", "joined", "choice", "one"]) (ps := ["start", "choices", "joins"]) (k := 3) (C := x_Grammar) (R := (R_Grammar (Cs.mk x_Part x_Word x_Maybe x_Again) (Cg.mk x_Choice x_Joins x_Grammar) x_NoGrammar)) (T := fun W => T_Grammar___init__ K _ _ _ _ W) F_Grammar___init__ sc_Grammar___init__ len_Grammar (p_Grammar___init__ (G_need_name.mono (by decide)) (G_need.mono (by decide)) (PySem.W.mg_of X G n_MOST_CHOICES) rv_MOST_CHOICES (PySem.W.mg_of X G n_MOST_JOINS) rv_MOST_JOINS (PySem.W.mg_none_of X G z_len) (PySem.W.mg_none_of X G z_set) (PySem.W.mg_none_of X G z_tuple)) (h_Grammar___init__ hd_MOST_CHOICES hd_MOST_JOINS kg), b_Grammar___init__, .nil⟩
  have G_choice_text : GD l.prog w K mg base 5 "choice_text" ["choice"] (spD K (R_choice_text (Cs.mk x_Part x_Word x_Maybe x_Again) (Cg.mk x_Choice x_Joins x_Grammar))) := gd_of (N := ["choice", "item"]) (ps := ["choice"]) (k := 4) (R := (R_choice_text (Cs.mk x_Part x_Word x_Maybe x_Again) (Cg.mk x_Choice x_Joins x_Grammar))) F_choice_text (PySem.W.mg_of X G a_choice_text) b_choice_text sc_choice_text len_choice_text (p_choice_text (mds_cons (G_Part_text.mono (by decide)) (mds_cons (G_Word_text.mono (by decide)) (mds_cons (G_Maybe_text.mono (by decide)) (mds_cons (G_Again_text.mono (by decide)) mds_nil))))) (h_choice_text kc kg)
  have G_joins_text : GD l.prog w K mg base 2 "joins_text" ["one"] (spD K (R_joins_text (Cg.mk x_Choice x_Joins x_Grammar))) := gd_of (N := ["one", "rows", "way", "words", "word"]) (ps := ["one"]) (k := 1) (R := (R_joins_text (Cg.mk x_Choice x_Joins x_Grammar))) F_joins_text (PySem.W.mg_of X G a_joins_text) b_joins_text sc_joins_text len_joins_text (p_joins_text (G_quoted.mono (by decide))) (h_joins_text kg)
  have G_written : GD l.prog w K mg base 6 "written" ["grammar"] (spD K (R_written (Cs.mk x_Part x_Word x_Maybe x_Again) (Cg.mk x_Choice x_Joins x_Grammar))) := gd_of (N := ["grammar", "rows", "choice", "one", "row"]) (ps := ["grammar"]) (k := 5) (R := (R_written (Cs.mk x_Part x_Word x_Maybe x_Again) (Cg.mk x_Choice x_Joins x_Grammar))) F_written (PySem.W.mg_of X G a_written) b_written sc_written len_written (p_written (G_choice_text.mono (by decide)) (G_joins_text.mono (by decide))) (h_written kg)
  have G__law_label_by : GD l.prog w K mg base 1 "_law_label_by" ["_law_cell_here"] (spD K R__law_label_by) := gd_of (N := ["_law_cell_here"]) (ps := ["_law_cell_here"]) (k := 0) (R := R__law_label_by) F__law_label_by (PySem.W.mg_of X G a__law_label_by) b__law_label_by sc__law_label_by len__law_label_by (p__law_label_by) h__law_label_by
  have G__law_joins_by : GD l.prog w K mg base 3 "_law_joins_by" ["_law_script", "_law_k", "_law_part"] (spN K D_joins_by (valR R_joins_by)) := gn_of (N := ["_law_script", "_law_k", "_law_part", "_law_more", "_law_seen", "_law_levels", "_law_j", "_law_mix", "_law_way", "_law_words", "_law_i", "_law_word", "_law_place", "_law_brackets"]) (ps := ["_law_script", "_law_k", "_law_part"]) (k := 2) (D := D_joins_by) (R := R_joins_by) F__law_joins_by (PySem.W.mg_of X G a__law_joins_by) b__law_joins_by sc__law_joins_by len__law_joins_by (p__law_joins_by (G__law_cell.mono (by decide)) (G__law_fixed_by.mono (by decide)) (G__law_part_by.mono (by decide)) (PySem.W.mg_none_of X G z_range) (PySem.W.mg_none_of X G z_int)) h__law_joins_by
  have G__law_size : GD l.prog w K mg base 1 "_law_size" ["_law_told_here"] (spD K R__law_size) := gd_of (N := ["_law_told_here"]) (ps := ["_law_told_here"]) (k := 0) (R := R__law_size) F__law_size (PySem.W.mg_of X G a__law_size) b__law_size sc__law_size len__law_size (p__law_size (PySem.W.mg_none_of X G z_len)) h__law_size
  have G__law_grammar_by : GD l.prog w K mg base 5 "_law_grammar_by" ["_law_script", "_law_first", "_law_most"] (spN K D_grammar_by (valR R_grammar_by)) := gn_of (N := ["_law_script", "_law_first", "_law_most", "_law_choices", "_law_seen", "_law_joined", "_law_k", "_law_more", "_law_part", "_law_label", "_law_items", "_law_j", "_law_item", "_law_joins", "_law_one"]) (ps := ["_law_script", "_law_first", "_law_most"]) (k := 4) (D := D_grammar_by) (R := R_grammar_by) F__law_grammar_by (PySem.W.mg_of X G a__law_grammar_by) b__law_grammar_by sc__law_grammar_by len__law_grammar_by (p__law_grammar_by (G__law_cell.mono (by decide)) (G__law_label_by.mono (by decide)) (G__law_item_by.mono (by decide)) (G__law_size.mono (by decide)) (G__law_joins_by.mono (by decide)) (G__law_part_by.mono (by decide)) (PySem.W.mg_none_of X G z_range) (PySem.W.mg_none_of X G z_sum) (PySem.W.mg_none_of X G z_len)) h__law_grammar_by
  have G__law_made : GD l.prog w K mg base 8 "_law_made" ["_law_told_here"] (spD K (R_gmade (Cs.mk x_Part x_Word x_Maybe x_Again) (Cg.mk x_Choice x_Joins x_Grammar))) := gd_of (N := ["_law_told_here", "_law_start", "_law_choices", "_law_joins", "_law_made_here", "_law_part", "_law_label", "_law_items", "_law_joined", "_law_of", "_law_brackets", "_law_levels", "_law_turned", "_law_item", "_law_one", "_law_way", "_law_words"]) (ps := ["_law_told_here"]) (k := 7) (R := (R_gmade (Cs.mk x_Part x_Word x_Maybe x_Again) (Cg.mk x_Choice x_Joins x_Grammar))) F__law_made (PySem.W.mg_of X G a__law_made) b__law_made sc__law_made len__law_made (p__law_made (G_made.mono (by decide)) G_Choice___init__ (by decide) G_Grammar___init__ (by decide) G_Joins___init__ (by decide) kp_Choice kp_Grammar kp_Joins (PySem.W.mg_none_of X G z_len) (PySem.W.mg_none_of X G z_tuple) (PySem.W.mg_none_of X G z_list)) (h__law_made kg)
  have G__law_told : GD l.prog w K mg base 3 "_law_told" ["_law_grammar"] (spD K (R_gtold (Cs.mk x_Part x_Word x_Maybe x_Again) (Cg.mk x_Choice x_Joins x_Grammar))) := gd_of (N := ["_law_grammar", "_law_choices", "_law_joins", "_law_one", "_law_levels", "_law_item", "_law_way", "_law_words"]) (ps := ["_law_grammar"]) (k := 2) (R := (R_gtold (Cs.mk x_Part x_Word x_Maybe x_Again) (Cg.mk x_Choice x_Joins x_Grammar))) F__law_told (PySem.W.mg_of X G a__law_told) b__law_told sc__law_told len__law_told (p__law_told (mds_cons (G_Part_told.mono (by decide)) (mds_cons (G_Word_told.mono (by decide)) (mds_cons (G_Maybe_told.mono (by decide)) (mds_cons (G_Again_told.mono (by decide)) mds_nil)))) (PySem.W.mg_none_of X G z_list)) (h__law_told kg)
  have G__law_rows : GD l.prog w K mg base 4 "_law_rows" ["_law_told_here"] (spD K R_rows) := gd_of (N := ["_law_told_here", "_law_start", "_law_choices", "_law_joins", "_law_rows_here", "_law_part", "_law_label", "_law_items", "_law_of", "_law_brackets", "_law_levels", "_law_pair", "_law_way", "_law_words", "_law_item", "_law_word"]) (ps := ["_law_told_here"]) (k := 3) (R := R_rows) F__law_rows (PySem.W.mg_of X G a__law_rows) b__law_rows sc__law_rows len__law_rows (p__law_rows (G_itx.mono (by decide))) h__law_rows
  have LF : FnOk l.prog w K mg base CX0 9 _ _ ["_law_script"] (spD K R_law) := fn_d (N := ["_law_script", "_law_k", "_law_told_here", "_law_grammar", "_law_due", "_law_found", "_law_row"]) (ps := ["_law_script"]) (k := 8) (R := R_law) F_law sc_law len_law (p_law (G__law_grammar_by.mono (by decide)) (G__law_made.mono (by decide)) (G__law_rows.mono (by decide)) (G_written.mono (by decide)) (G__law_told.mono (by decide)) (PySem.W.mg_none_of X G z_range) (PySem.W.mg_none_of X G z_max) (PySem.W.mg_none_of X G z_min) (PySem.W.mg_none_of X G z_len) (PySem.W.mg_none_of X G z_isinstance) (PySem.W.mg_none_of X G z_str)) h_law
  exact LF.imp fun vs H Q E q => by
    obtain ⟨a, ns, rfl, hs, hn, q⟩ := q
    exact ⟨H, [.scr ns], .bl true, Evl.Ex.refl _, .cons (.scr hs) .nil, ⟨ns, rfl, hn, rfl⟩, fun v G1 H1 g r => by cases r; exact q _⟩
end K23
open PySem PySem.W PyProof.Rows
set_option maxHeartbeats 0 in
theorem PySem.Challenge.cw_readwright_k23_grammars_written_holds : PySem.Challenge.rw_readwright_k23_grammars_written.Holds := by
  w_on; o_law; k_head; (case hw => w_witness2)
  k_fill
  refine L2.walk_of (l := PySem.Challenge.rw_readwright_k23_grammars_written) (n := 63) (k := 9) (x := "_law_script") (CX := fun _ => L2.CX0) (sp := fun w => K23.spLaw _) rfl (by decide) rfl ⟨rfl, by decide, by decide⟩ (fun w h Y => PySem.W.kIn_of Y) ?F (fun _ _ a ns hl _ hS => ⟨a, ns, rfl, hS, hl, fun _ => rfl⟩) (fun _ _ _ _ _ h => h)
  case F =>
    intro w mg fa h KX G hmg
    refine' K23.all_mk KX G hmg ?n_Part ?pg_Part ?hd_Part ?po_Part ?sa_Part ?cc_Part ?cn ?ct ?mo_Part ?kp_Part ?nf_Part_name ?n_Word ?pg_Word ?hd_Word ?po_Word ?sa_Word ?cc_Word ?mo_Word ?kp_Word ?nf_Word_kind ?n_Maybe ?pg_Maybe ?hd_Maybe ?po_Maybe ?sa_Maybe ?cc_Maybe ?mo_Maybe ?kp_Maybe ?nf_Maybe_things ?n_Again ?pg_Again ?hd_Again ?po_Again ?sa_Again ?cc_Again ?mo_Again ?kp_Again ?nf_Again_things ?nf_Again_between ?n_Choice ?pg_Choice ?hd_Choice ?po_Choice ?sa_Choice ?cc_Choice ?mo_Choice ?kp_Choice ?nf_Choice_part ?nf_Choice_label ?nf_Choice_things ?n_Joins ?pg_Joins ?hd_Joins ?po_Joins ?sa_Joins ?cc_Joins ?mo_Joins ?kp_Joins ?nf_Joins_part ?nf_Joins_of ?nf_Joins_brackets ?nf_Joins_levels ?n_Grammar ?pg_Grammar ?hd_Grammar ?po_Grammar ?sa_Grammar ?cc_Grammar ?mo_Grammar ?kp_Grammar ?nf_Grammar_start ?nf_Grammar_choices ?nf_Grammar_joins ?n_Item ?n_NoGrammar ?sb_NoGrammar ?ty_NoGrammar ?hd_c_NoGrammar ?kp_NoGrammar ?ga_NoGrammar ?gg_NoGrammar ?xq_NoGrammar ?ki_Part_Part ?ki_Part_Word ?ki_Part_Maybe ?ki_Part_Again ?ki_Part_Item ?ki_Word_Part ?ki_Word_Word ?ki_Word_Maybe ?ki_Word_Again ?ki_Word_Item ?ki_Maybe_Part ?ki_Maybe_Word ?ki_Maybe_Maybe ?ki_Maybe_Again ?ki_Maybe_Item ?ki_Again_Part ?ki_Again_Word ?ki_Again_Maybe ?ki_Again_Again ?ki_Again_Item ?a_is_of ?l_is_of ?c_is_of ?k_is_of ?z_len ?z_all ?a_is_fixed ?l_is_fixed ?c_is_fixed ?k_is_fixed ?n_LETTERS ?n_MOST_LETTERS_words ?n_SIGNS ?n_MOST_SIGNS ?z_isinstance ?z_str ?a_is_kind ?l_is_kind ?c_is_kind ?k_is_kind ?n_OPEN ?o_OPEN ?a_fixed_of ?l_fixed_of ?c_fixed_of ?k_fixed_of ?a_is_name ?l_is_name ?c_is_name ?k_is_name ?n_MOST_LETTERS_items ?n_KEPT ?o_KEPT ?a_need_name ?l_need_name ?c_need_name ?k_need_name ?a_quoted ?l_quoted ?c_quoted ?k_quoted ?a_Part___init__ ?l_Part___init__ ?c_Part___init__ ?k_Part___init__ ?if_Part___init__ ?mk_Part ?a_Word___init__ ?l_Word___init__ ?c_Word___init__ ?k_Word___init__ ?if_Word___init__ ?mk_Word ?a_need_inner ?l_need_inner ?c_need_inner ?k_need_inner ?a_Maybe___init__ ?l_Maybe___init__ ?c_Maybe___init__ ?k_Maybe___init__ ?if_Maybe___init__ ?mk_Maybe ?z_tuple ?a_Again___init__ ?l_Again___init__ ?dt_Again___init__ ?c_Again___init__ ?k_Again___init__ ?if_Again___init__ ?mk_Again ?a_Part_told ?l_Part_told ?c_Part_told ?k_Part_told ?if_Part_told ?a_Word_told ?l_Word_told ?c_Word_told ?k_Word_told ?if_Word_told ?a_Part_text ?l_Part_text ?c_Part_text ?k_Part_text ?if_Part_text ?a_Word_text ?l_Word_text ?c_Word_text ?k_Word_text ?if_Word_text ?a_Maybe_told ?l_Maybe_told ?c_Maybe_told ?k_Maybe_told ?if_Maybe_told ?a_Again_told ?l_Again_told ?c_Again_told ?k_Again_told ?if_Again_told ?a_all_texts ?l_all_texts ?c_all_texts ?k_all_texts ?a_Maybe_text ?l_Maybe_text ?c_Maybe_text ?k_Maybe_text ?if_Maybe_text ?a_Again_text ?l_Again_text ?c_Again_text ?k_Again_text ?if_Again_text ?a__law_cell ?l__law_cell ?c__law_cell ?k__law_cell ?a__law_signs ?l__law_signs ?c__law_signs ?k__law_signs ?a__law_fixed_by ?l__law_fixed_by ?c__law_fixed_by ?k__law_fixed_by ?z_range ?a__law_part_by ?l__law_part_by ?c__law_part_by ?k__law_part_by ?a__law_plain_item ?l__law_plain_item ?c__law_plain_item ?k__law_plain_item ?a__law_item_by ?l__law_item_by ?c__law_item_by ?k__law_item_by ?a__law_word_text ?l__law_word_text ?c__law_word_text ?k__law_word_text ?a__law_made_item ?l__law_made_item ?c__law_made_item ?k__law_made_item ?a__law_item_text ?l__law_item_text ?c__law_item_text ?k__law_item_text ?z_int ?pg_Item ?hd_Item ?po_Item ?sa_Item ?cc_Item ?mo_Item ?kp_Item ?a_Item_inner ?l_Item_inner ?c_Item_inner ?k_Item_inner ?if_Item_inner ?a_Part_inner ?a_Word_inner ?a_Maybe_inner ?l_Maybe_inner ?c_Maybe_inner ?k_Maybe_inner ?if_Maybe_inner ?a_Again_inner ?l_Again_inner ?c_Again_inner ?k_Again_inner ?if_Again_inner ?a_Item_size ?l_Item_size ?c_Item_size ?k_Item_size ?if_Item_size ?a_Part_size ?a_Word_size ?a_Maybe_size ?a_Again_size ?a_need ?l_need ?c_need ?k_need ?a_need_level ?l_need_level ?c_need_level ?k_need_level ?n_WAYS ?o_WAYS ?n_MOST_WORDS ?a_place_of ?l_place_of ?c_place_of ?k_place_of ?n_BETWEEN ?o_BETWEEN ?a_Choice___init__ ?l_Choice___init__ ?c_Choice___init__ ?k_Choice___init__ ?if_Choice___init__ ?mk_Choice ?n_MOST_ITEMS ?z_sum ?a_Joins___init__ ?l_Joins___init__ ?c_Joins___init__ ?k_Joins___init__ ?if_Joins___init__ ?mk_Joins ?n_MOST_LEVELS ?a_Grammar___init__ ?l_Grammar___init__ ?c_Grammar___init__ ?k_Grammar___init__ ?if_Grammar___init__ ?mk_Grammar ?n_MOST_CHOICES ?n_MOST_JOINS ?z_set ?a_choice_text ?l_choice_text ?c_choice_text ?k_choice_text ?a_joins_text ?l_joins_text ?c_joins_text ?k_joins_text ?a_written ?l_written ?c_written ?k_written ?a__law_label_by ?l__law_label_by ?c__law_label_by ?k__law_label_by ?a__law_joins_by ?l__law_joins_by ?c__law_joins_by ?k__law_joins_by ?a__law_size ?l__law_size ?c__law_size ?k__law_size ?a__law_grammar_by ?l__law_grammar_by ?c__law_grammar_by ?k__law_grammar_by ?a__law_made ?l__law_made ?c__law_made ?k__law_made ?z_list ?a__law_told ?l__law_told ?c__law_told ?k__law_told ?a__law_rows ?l__law_rows ?c__law_rows ?k__law_rows ?a_law ?l_law ?c_law ?k_law ?z_max ?z_min
    (case n_Part => first | k_is | k_exc | rfl)
    (case pg_Part => first | k_is | k_exc | rfl)
    (case hd_Part => first | k_is | k_exc | rfl)
    (case po_Part => first | k_is | k_exc | rfl)
    (case sa_Part => first | k_is | k_exc | rfl)
    (case cc_Part => first | k_is | k_exc | rfl)
    (case cn => first | k_is | k_exc | rfl)
    (case ct => first | k_is | k_exc | rfl)
    (case mo_Part => first | k_is | k_exc | rfl)
    (case kp_Part => first | k_is | k_exc | rfl)
    (case nf_Part_name => first | k_is | k_exc | rfl)
    (case n_Word => first | k_is | k_exc | rfl)
    (case pg_Word => first | k_is | k_exc | rfl)
    (case hd_Word => first | k_is | k_exc | rfl)
    (case po_Word => first | k_is | k_exc | rfl)
    (case sa_Word => first | k_is | k_exc | rfl)
    (case cc_Word => first | k_is | k_exc | rfl)
    (case mo_Word => first | k_is | k_exc | rfl)
    (case kp_Word => first | k_is | k_exc | rfl)
    (case nf_Word_kind => first | k_is | k_exc | rfl)
    (case n_Maybe => first | k_is | k_exc | rfl)
    (case pg_Maybe => first | k_is | k_exc | rfl)
    (case hd_Maybe => first | k_is | k_exc | rfl)
    (case po_Maybe => first | k_is | k_exc | rfl)
    (case sa_Maybe => first | k_is | k_exc | rfl)
    (case cc_Maybe => first | k_is | k_exc | rfl)
    (case mo_Maybe => first | k_is | k_exc | rfl)
    (case kp_Maybe => first | k_is | k_exc | rfl)
    (case nf_Maybe_things => first | k_is | k_exc | rfl)
    (case n_Again => first | k_is | k_exc | rfl)
    (case pg_Again => first | k_is | k_exc | rfl)
    (case hd_Again => first | k_is | k_exc | rfl)
    (case po_Again => first | k_is | k_exc | rfl)
    (case sa_Again => first | k_is | k_exc | rfl)
    (case cc_Again => first | k_is | k_exc | rfl)
    (case mo_Again => first | k_is | k_exc | rfl)
    (case kp_Again => first | k_is | k_exc | rfl)
    (case nf_Again_things => first | k_is | k_exc | rfl)
    (case nf_Again_between => first | k_is | k_exc | rfl)
    (case n_Choice => first | k_is | k_exc | rfl)
    (case pg_Choice => first | k_is | k_exc | rfl)
    (case hd_Choice => first | k_is | k_exc | rfl)
    (case po_Choice => first | k_is | k_exc | rfl)
    (case sa_Choice => first | k_is | k_exc | rfl)
    (case cc_Choice => first | k_is | k_exc | rfl)
    (case mo_Choice => first | k_is | k_exc | rfl)
    (case kp_Choice => first | k_is | k_exc | rfl)
    (case nf_Choice_part => first | k_is | k_exc | rfl)
    (case nf_Choice_label => first | k_is | k_exc | rfl)
    (case nf_Choice_things => first | k_is | k_exc | rfl)
    (case n_Joins => first | k_is | k_exc | rfl)
    (case pg_Joins => first | k_is | k_exc | rfl)
    (case hd_Joins => first | k_is | k_exc | rfl)
    (case po_Joins => first | k_is | k_exc | rfl)
    (case sa_Joins => first | k_is | k_exc | rfl)
    (case cc_Joins => first | k_is | k_exc | rfl)
    (case mo_Joins => first | k_is | k_exc | rfl)
    (case kp_Joins => first | k_is | k_exc | rfl)
    (case nf_Joins_part => first | k_is | k_exc | rfl)
    (case nf_Joins_of => first | k_is | k_exc | rfl)
    (case nf_Joins_brackets => first | k_is | k_exc | rfl)
    (case nf_Joins_levels => first | k_is | k_exc | rfl)
    (case n_Grammar => first | k_is | k_exc | rfl)
    (case pg_Grammar => first | k_is | k_exc | rfl)
    (case hd_Grammar => first | k_is | k_exc | rfl)
    (case po_Grammar => first | k_is | k_exc | rfl)
    (case sa_Grammar => first | k_is | k_exc | rfl)
    (case cc_Grammar => first | k_is | k_exc | rfl)
    (case mo_Grammar => first | k_is | k_exc | rfl)
    (case kp_Grammar => first | k_is | k_exc | rfl)
    (case nf_Grammar_start => first | k_is | k_exc | rfl)
    (case nf_Grammar_choices => first | k_is | k_exc | rfl)
    (case nf_Grammar_joins => first | k_is | k_exc | rfl)
    (case n_Item => first | k_is | k_exc | rfl)
    (case n_NoGrammar => first | k_is | k_exc | rfl)
    (case sb_NoGrammar => first | k_is | k_exc | rfl)
    (case ty_NoGrammar => first | k_is | k_exc | rfl)
    (case hd_c_NoGrammar => first | k_is | k_exc | rfl)
    (case kp_NoGrammar => first | k_is | k_exc | rfl)
    (case ga_NoGrammar => first | k_is | k_exc | rfl)
    (case gg_NoGrammar => first | k_is | k_exc | rfl)
    (case xq_NoGrammar => first | k_is | k_exc | rfl)
    (case ki_Part_Part => first | k_is | k_exc | rfl)
    (case ki_Part_Word => first | k_is | k_exc | rfl)
    (case ki_Part_Maybe => first | k_is | k_exc | rfl)
    (case ki_Part_Again => first | k_is | k_exc | rfl)
    (case ki_Part_Item => first | k_is | k_exc | rfl)
    (case ki_Word_Part => first | k_is | k_exc | rfl)
    (case ki_Word_Word => first | k_is | k_exc | rfl)
    (case ki_Word_Maybe => first | k_is | k_exc | rfl)
    (case ki_Word_Again => first | k_is | k_exc | rfl)
    (case ki_Word_Item => first | k_is | k_exc | rfl)
    (case ki_Maybe_Part => first | k_is | k_exc | rfl)
    (case ki_Maybe_Word => first | k_is | k_exc | rfl)
    (case ki_Maybe_Maybe => first | k_is | k_exc | rfl)
    (case ki_Maybe_Again => first | k_is | k_exc | rfl)
    (case ki_Maybe_Item => first | k_is | k_exc | rfl)
    (case ki_Again_Part => first | k_is | k_exc | rfl)
    (case ki_Again_Word => first | k_is | k_exc | rfl)
    (case ki_Again_Maybe => first | k_is | k_exc | rfl)
    (case ki_Again_Again => first | k_is | k_exc | rfl)
    (case ki_Again_Item => first | k_is | k_exc | rfl)
    (case a_is_of => first | k_is | k_exc | rfl)
    (case l_is_of => first | k_is | k_exc | rfl)
    (case c_is_of => first | k_is | k_exc | rfl)
    (case k_is_of => first | k_is | k_exc | rfl)
    (case z_len => first | k_is | k_exc | rfl)
    (case z_all => first | k_is | k_exc | rfl)
    (case a_is_fixed => first | k_is | k_exc | rfl)
    (case l_is_fixed => first | k_is | k_exc | rfl)
    (case c_is_fixed => first | k_is | k_exc | rfl)
    (case k_is_fixed => first | k_is | k_exc | rfl)
    (case n_LETTERS => first | k_is | k_exc | rfl)
    (case n_MOST_LETTERS_words => first | k_is | k_exc | rfl)
    (case n_SIGNS => first | k_is | k_exc | rfl)
    (case n_MOST_SIGNS => first | k_is | k_exc | rfl)
    (case z_isinstance => first | k_is | k_exc | rfl)
    (case z_str => first | k_is | k_exc | rfl)
    (case a_is_kind => first | k_is | k_exc | rfl)
    (case l_is_kind => first | k_is | k_exc | rfl)
    (case c_is_kind => first | k_is | k_exc | rfl)
    (case k_is_kind => first | k_is | k_exc | rfl)
    (case n_OPEN => first | k_is | k_exc | rfl)
    (case o_OPEN => first | k_is | k_exc | rfl)
    (case a_fixed_of => first | k_is | k_exc | rfl)
    (case l_fixed_of => first | k_is | k_exc | rfl)
    (case c_fixed_of => first | k_is | k_exc | rfl)
    (case k_fixed_of => first | k_is | k_exc | rfl)
    (case a_is_name => first | k_is | k_exc | rfl)
    (case l_is_name => first | k_is | k_exc | rfl)
    (case c_is_name => first | k_is | k_exc | rfl)
    (case k_is_name => first | k_is | k_exc | rfl)
    (case n_MOST_LETTERS_items => first | k_is | k_exc | rfl)
    (case n_KEPT => first | k_is | k_exc | rfl)
    (case o_KEPT => first | k_is | k_exc | rfl)
    (case a_need_name => first | k_is | k_exc | rfl)
    (case l_need_name => first | k_is | k_exc | rfl)
    (case c_need_name => first | k_is | k_exc | rfl)
    (case k_need_name => first | k_is | k_exc | rfl)
    (case a_quoted => first | k_is | k_exc | rfl)
    (case l_quoted => first | k_is | k_exc | rfl)
    (case c_quoted => first | k_is | k_exc | rfl)
    (case k_quoted => first | k_is | k_exc | rfl)
    (case a_Part___init__ => first | k_is | k_exc | rfl)
    (case l_Part___init__ => first | k_is | k_exc | rfl)
    (case c_Part___init__ => first | k_is | k_exc | rfl)
    (case k_Part___init__ => first | k_is | k_exc | rfl)
    (case if_Part___init__ => first | k_is | k_exc | rfl)
    (case mk_Part => first | k_is | k_exc | rfl)
    (case a_Word___init__ => first | k_is | k_exc | rfl)
    (case l_Word___init__ => first | k_is | k_exc | rfl)
    (case c_Word___init__ => first | k_is | k_exc | rfl)
    (case k_Word___init__ => first | k_is | k_exc | rfl)
    (case if_Word___init__ => first | k_is | k_exc | rfl)
    (case mk_Word => first | k_is | k_exc | rfl)
    (case a_need_inner => first | k_is | k_exc | rfl)
    (case l_need_inner => first | k_is | k_exc | rfl)
    (case c_need_inner => first | k_is | k_exc | rfl)
    (case k_need_inner => first | k_is | k_exc | rfl)
    (case a_Maybe___init__ => first | k_is | k_exc | rfl)
    (case l_Maybe___init__ => first | k_is | k_exc | rfl)
    (case c_Maybe___init__ => first | k_is | k_exc | rfl)
    (case k_Maybe___init__ => first | k_is | k_exc | rfl)
    (case if_Maybe___init__ => first | k_is | k_exc | rfl)
    (case mk_Maybe => first | k_is | k_exc | rfl)
    (case z_tuple => first | k_is | k_exc | rfl)
    (case a_Again___init__ => first | k_is | k_exc | rfl)
    (case l_Again___init__ => first | k_is | k_exc | rfl)
    (case dt_Again___init__ => first | k_is | k_exc | rfl)
    (case c_Again___init__ => first | k_is | k_exc | rfl)
    (case k_Again___init__ => first | k_is | k_exc | rfl)
    (case if_Again___init__ => first | k_is | k_exc | rfl)
    (case mk_Again => first | k_is | k_exc | rfl)
    (case a_Part_told => first | k_is | k_exc | rfl)
    (case l_Part_told => first | k_is | k_exc | rfl)
    (case c_Part_told => first | k_is | k_exc | rfl)
    (case k_Part_told => first | k_is | k_exc | rfl)
    (case if_Part_told => first | k_is | k_exc | rfl)
    (case a_Word_told => first | k_is | k_exc | rfl)
    (case l_Word_told => first | k_is | k_exc | rfl)
    (case c_Word_told => first | k_is | k_exc | rfl)
    (case k_Word_told => first | k_is | k_exc | rfl)
    (case if_Word_told => first | k_is | k_exc | rfl)
    (case a_Part_text => first | k_is | k_exc | rfl)
    (case l_Part_text => first | k_is | k_exc | rfl)
    (case c_Part_text => first | k_is | k_exc | rfl)
    (case k_Part_text => first | k_is | k_exc | rfl)
    (case if_Part_text => first | k_is | k_exc | rfl)
    (case a_Word_text => first | k_is | k_exc | rfl)
    (case l_Word_text => first | k_is | k_exc | rfl)
    (case c_Word_text => first | k_is | k_exc | rfl)
    (case k_Word_text => first | k_is | k_exc | rfl)
    (case if_Word_text => first | k_is | k_exc | rfl)
    (case a_Maybe_told => first | k_is | k_exc | rfl)
    (case l_Maybe_told => first | k_is | k_exc | rfl)
    (case c_Maybe_told => first | k_is | k_exc | rfl)
    (case k_Maybe_told => first | k_is | k_exc | rfl)
    (case if_Maybe_told => first | k_is | k_exc | rfl)
    (case a_Again_told => first | k_is | k_exc | rfl)
    (case l_Again_told => first | k_is | k_exc | rfl)
    (case c_Again_told => first | k_is | k_exc | rfl)
    (case k_Again_told => first | k_is | k_exc | rfl)
    (case if_Again_told => first | k_is | k_exc | rfl)
    (case a_all_texts => first | k_is | k_exc | rfl)
    (case l_all_texts => first | k_is | k_exc | rfl)
    (case c_all_texts => first | k_is | k_exc | rfl)
    (case k_all_texts => first | k_is | k_exc | rfl)
    (case a_Maybe_text => first | k_is | k_exc | rfl)
    (case l_Maybe_text => first | k_is | k_exc | rfl)
    (case c_Maybe_text => first | k_is | k_exc | rfl)
    (case k_Maybe_text => first | k_is | k_exc | rfl)
    (case if_Maybe_text => first | k_is | k_exc | rfl)
    (case a_Again_text => first | k_is | k_exc | rfl)
    (case l_Again_text => first | k_is | k_exc | rfl)
    (case c_Again_text => first | k_is | k_exc | rfl)
    (case k_Again_text => first | k_is | k_exc | rfl)
    (case if_Again_text => first | k_is | k_exc | rfl)
    (case a__law_cell => first | k_is | k_exc | rfl)
    (case l__law_cell => first | k_is | k_exc | rfl)
    (case c__law_cell => first | k_is | k_exc | rfl)
    (case k__law_cell => first | k_is | k_exc | rfl)
    (case a__law_signs => first | k_is | k_exc | rfl)
    (case l__law_signs => first | k_is | k_exc | rfl)
    (case c__law_signs => first | k_is | k_exc | rfl)
    (case k__law_signs => first | k_is | k_exc | rfl)
    (case a__law_fixed_by => first | k_is | k_exc | rfl)
    (case l__law_fixed_by => first | k_is | k_exc | rfl)
    (case c__law_fixed_by => first | k_is | k_exc | rfl)
    (case k__law_fixed_by => first | k_is | k_exc | rfl)
    (case z_range => first | k_is | k_exc | rfl)
    (case a__law_part_by => first | k_is | k_exc | rfl)
    (case l__law_part_by => first | k_is | k_exc | rfl)
    (case c__law_part_by => first | k_is | k_exc | rfl)
    (case k__law_part_by => first | k_is | k_exc | rfl)
    (case a__law_plain_item => first | k_is | k_exc | rfl)
    (case l__law_plain_item => first | k_is | k_exc | rfl)
    (case c__law_plain_item => first | k_is | k_exc | rfl)
    (case k__law_plain_item => first | k_is | k_exc | rfl)
    (case a__law_item_by => first | k_is | k_exc | rfl)
    (case l__law_item_by => first | k_is | k_exc | rfl)
    (case c__law_item_by => first | k_is | k_exc | rfl)
    (case k__law_item_by => first | k_is | k_exc | rfl)
    (case a__law_word_text => first | k_is | k_exc | rfl)
    (case l__law_word_text => first | k_is | k_exc | rfl)
    (case c__law_word_text => first | k_is | k_exc | rfl)
    (case k__law_word_text => first | k_is | k_exc | rfl)
    (case a__law_made_item => first | k_is | k_exc | rfl)
    (case l__law_made_item => first | k_is | k_exc | rfl)
    (case c__law_made_item => first | k_is | k_exc | rfl)
    (case k__law_made_item => first | k_is | k_exc | rfl)
    (case a__law_item_text => first | k_is | k_exc | rfl)
    (case l__law_item_text => first | k_is | k_exc | rfl)
    (case c__law_item_text => first | k_is | k_exc | rfl)
    (case k__law_item_text => first | k_is | k_exc | rfl)
    (case z_int => first | k_is | k_exc | rfl)
    (case pg_Item => first | k_is | k_exc | rfl)
    (case hd_Item => first | k_is | k_exc | rfl)
    (case po_Item => first | k_is | k_exc | rfl)
    (case sa_Item => first | k_is | k_exc | rfl)
    (case cc_Item => first | k_is | k_exc | rfl)
    (case mo_Item => first | k_is | k_exc | rfl)
    (case kp_Item => first | k_is | k_exc | rfl)
    (case a_Item_inner => first | k_is | k_exc | rfl)
    (case l_Item_inner => first | k_is | k_exc | rfl)
    (case c_Item_inner => first | k_is | k_exc | rfl)
    (case k_Item_inner => first | k_is | k_exc | rfl)
    (case if_Item_inner => first | k_is | k_exc | rfl)
    (case a_Part_inner => first | k_is | k_exc | rfl)
    (case a_Word_inner => first | k_is | k_exc | rfl)
    (case a_Maybe_inner => first | k_is | k_exc | rfl)
    (case l_Maybe_inner => first | k_is | k_exc | rfl)
    (case c_Maybe_inner => first | k_is | k_exc | rfl)
    (case k_Maybe_inner => first | k_is | k_exc | rfl)
    (case if_Maybe_inner => first | k_is | k_exc | rfl)
    (case a_Again_inner => first | k_is | k_exc | rfl)
    (case l_Again_inner => first | k_is | k_exc | rfl)
    (case c_Again_inner => first | k_is | k_exc | rfl)
    (case k_Again_inner => first | k_is | k_exc | rfl)
    (case if_Again_inner => first | k_is | k_exc | rfl)
    (case a_Item_size => first | k_is | k_exc | rfl)
    (case l_Item_size => first | k_is | k_exc | rfl)
    (case c_Item_size => first | k_is | k_exc | rfl)
    (case k_Item_size => first | k_is | k_exc | rfl)
    (case if_Item_size => first | k_is | k_exc | rfl)
    (case a_Part_size => first | k_is | k_exc | rfl)
    (case a_Word_size => first | k_is | k_exc | rfl)
    (case a_Maybe_size => first | k_is | k_exc | rfl)
    (case a_Again_size => first | k_is | k_exc | rfl)
    (case a_need => first | k_is | k_exc | rfl)
    (case l_need => first | k_is | k_exc | rfl)
    (case c_need => first | k_is | k_exc | rfl)
    (case k_need => first | k_is | k_exc | rfl)
    (case a_need_level => first | k_is | k_exc | rfl)
    (case l_need_level => first | k_is | k_exc | rfl)
    (case c_need_level => first | k_is | k_exc | rfl)
    (case k_need_level => first | k_is | k_exc | rfl)
    (case n_WAYS => first | k_is | k_exc | rfl)
    (case o_WAYS => first | k_is | k_exc | rfl)
    (case n_MOST_WORDS => first | k_is | k_exc | rfl)
    (case a_place_of => first | k_is | k_exc | rfl)
    (case l_place_of => first | k_is | k_exc | rfl)
    (case c_place_of => first | k_is | k_exc | rfl)
    (case k_place_of => first | k_is | k_exc | rfl)
    (case n_BETWEEN => first | k_is | k_exc | rfl)
    (case o_BETWEEN => first | k_is | k_exc | rfl)
    (case a_Choice___init__ => first | k_is | k_exc | rfl)
    (case l_Choice___init__ => first | k_is | k_exc | rfl)
    (case c_Choice___init__ => first | k_is | k_exc | rfl)
    (case k_Choice___init__ => first | k_is | k_exc | rfl)
    (case if_Choice___init__ => first | k_is | k_exc | rfl)
    (case mk_Choice => first | k_is | k_exc | rfl)
    (case n_MOST_ITEMS => first | k_is | k_exc | rfl)
    (case z_sum => first | k_is | k_exc | rfl)
    (case a_Joins___init__ => first | k_is | k_exc | rfl)
    (case l_Joins___init__ => first | k_is | k_exc | rfl)
    (case c_Joins___init__ => first | k_is | k_exc | rfl)
    (case k_Joins___init__ => first | k_is | k_exc | rfl)
    (case if_Joins___init__ => first | k_is | k_exc | rfl)
    (case mk_Joins => first | k_is | k_exc | rfl)
    (case n_MOST_LEVELS => first | k_is | k_exc | rfl)
    (case a_Grammar___init__ => first | k_is | k_exc | rfl)
    (case l_Grammar___init__ => first | k_is | k_exc | rfl)
    (case c_Grammar___init__ => first | k_is | k_exc | rfl)
    (case k_Grammar___init__ => first | k_is | k_exc | rfl)
    (case if_Grammar___init__ => first | k_is | k_exc | rfl)
    (case mk_Grammar => first | k_is | k_exc | rfl)
    (case n_MOST_CHOICES => first | k_is | k_exc | rfl)
    (case n_MOST_JOINS => first | k_is | k_exc | rfl)
    (case z_set => first | k_is | k_exc | rfl)
    (case a_choice_text => first | k_is | k_exc | rfl)
    (case l_choice_text => first | k_is | k_exc | rfl)
    (case c_choice_text => first | k_is | k_exc | rfl)
    (case k_choice_text => first | k_is | k_exc | rfl)
    (case a_joins_text => first | k_is | k_exc | rfl)
    (case l_joins_text => first | k_is | k_exc | rfl)
    (case c_joins_text => first | k_is | k_exc | rfl)
    (case k_joins_text => first | k_is | k_exc | rfl)
    (case a_written => first | k_is | k_exc | rfl)
    (case l_written => first | k_is | k_exc | rfl)
    (case c_written => first | k_is | k_exc | rfl)
    (case k_written => first | k_is | k_exc | rfl)
    (case a__law_label_by => first | k_is | k_exc | rfl)
    (case l__law_label_by => first | k_is | k_exc | rfl)
    (case c__law_label_by => first | k_is | k_exc | rfl)
    (case k__law_label_by => first | k_is | k_exc | rfl)
    (case a__law_joins_by => first | k_is | k_exc | rfl)
    (case l__law_joins_by => first | k_is | k_exc | rfl)
    (case c__law_joins_by => first | k_is | k_exc | rfl)
    (case k__law_joins_by => first | k_is | k_exc | rfl)
    (case a__law_size => first | k_is | k_exc | rfl)
    (case l__law_size => first | k_is | k_exc | rfl)
    (case c__law_size => first | k_is | k_exc | rfl)
    (case k__law_size => first | k_is | k_exc | rfl)
    (case a__law_grammar_by => first | k_is | k_exc | rfl)
    (case l__law_grammar_by => first | k_is | k_exc | rfl)
    (case c__law_grammar_by => first | k_is | k_exc | rfl)
    (case k__law_grammar_by => first | k_is | k_exc | rfl)
    (case a__law_made => first | k_is | k_exc | rfl)
    (case l__law_made => first | k_is | k_exc | rfl)
    (case c__law_made => first | k_is | k_exc | rfl)
    (case k__law_made => first | k_is | k_exc | rfl)
    (case z_list => first | k_is | k_exc | rfl)
    (case a__law_told => first | k_is | k_exc | rfl)
    (case l__law_told => first | k_is | k_exc | rfl)
    (case c__law_told => first | k_is | k_exc | rfl)
    (case k__law_told => first | k_is | k_exc | rfl)
    (case a__law_rows => first | k_is | k_exc | rfl)
    (case l__law_rows => first | k_is | k_exc | rfl)
    (case c__law_rows => first | k_is | k_exc | rfl)
    (case k__law_rows => first | k_is | k_exc | rfl)
    (case a_law => first | k_is | k_exc | rfl)
    (case l_law => first | k_is | k_exc | rfl)
    (case c_law => first | k_is | k_exc | rfl)
    (case k_law => first | k_is | k_exc | rfl)
    (case z_max => first | k_is | k_exc | rfl)
    (case z_min => first | k_is | k_exc | rfl)
